import PyProof.Rows.All
import Wide.All
import OpenK.AllK
import Wide.FinOn
import HandS.Dict
import KE.KeyNested
import HandS.ForMost
import HandS.ForExc
import HandS.CallSlots
import HandS.Defaults
import HandS.HeadHook2
import HandS.IsInst
import HandS.SortInts
import HandS.Wide
import HandS.WideBits
import HandS.More
import HandS.TupAny
import HandS.Deep
import HandS.Zip
import HandS.Iter
import HandS.Lambda
import KE.GoesEnum
import HandS.SetFor
import HandS.Strs
import HandS.Comp
import HandS.Style
import HandS.Text
import HandS.TupSets
import HandS.Conv
import HandS.Zip0
import HandS.TupLe
import HandS.ExcInit
import HandS.ExcOwn
import HandS.ExcValue
import HandS.ExcField
import KE.KExcIs
import KE.KIsAll
import HandS.HotCalls
import KE.SortData
import KE.KDictSum
import HandS.TupMul
import KE.DataCmp
import KE.DataMinMax
import KE.KDictDisplayH
import KE.KDictCopyH
import KE.OsArith
import HandS.Base
import HandS.Call
import HandS.Ends
import HandS.Words
import HandS.WordsExc
import HandS.Head0
import HandS.Head1
import HandS.Head2
import HandS.HeadEnd
import HandS.HeadHook1
import KE.KStateDown
import Lean
import PySem.Challenge.RW_badbegins_k51_never_more_for_less
set_option Elab.async false
set_option linter.all false
set_option maxRecDepth 100000
set_option maxHeartbeats 4000000
set_option autoImplicit false
namespace PD
open PySem PySem.Spec L2
open PyProof.Rows hiding St
mutual
def nkD : PyData → Option NestedKey
  | .none => some .none
  | .bool b => some (.num (if b then 1 else 0))
  | .int i => some (.num i)
  | .tuple xs => (nkDs xs).map .tup
  | _ => none
def nkDs : List PyData → Option (List NestedKey)
  | [] => some []
  | x :: xs => match nkD x with
    | some k => (nkDs xs).map (k :: ·)
    | none => none
end
mutual
def noT : NestedKey → Bool
  | .text _ => false
  | .tup ks => noTs ks
  | _ => true
def noTs : List NestedKey → Bool
  | [] => true
  | k :: ks => noT k && noTs ks
end
mutual
theorem hash_any (w w' : World) : ∀ k : NestedKey, noT k = true → k.hash w = k.hash w'
  | .none, _ => by rw [NestedKey.hash, NestedKey.hash]
  | .num i, _ => by rw [NestedKey.hash, NestedKey.hash]
  | .text x, h => by rw [noT] at h; cases h
  | .tup ks, h => by
    rw [noT] at h
    rw [NestedKey.hash, NestedKey.hash, hashes_any w w' ks h]
theorem hashes_any (w w' : World) : ∀ ks : List NestedKey, noTs ks = true → NestedKey.hashes w ks = NestedKey.hashes w' ks
  | [], _ => by rw [NestedKey.hashes, NestedKey.hashes]
  | k :: ks, h => by
    rw [noTs, Bool.and_eq_true] at h
    rw [NestedKey.hashes, NestedKey.hashes, hash_any w w' k h.1, hashes_any w w' ks h.2]
end
mutual
theorem nkD_noT : ∀ (d : PyData) (k : NestedKey), nkD d = some k → noT k = true
  | .none, k, h => by rw [nkD] at h; cases h; rw [noT]; all_goals (intros; rename_i e; cases e)
  | .bool b, k, h => by rw [nkD] at h; cases h; rw [noT]; all_goals (intros; rename_i e; cases e)
  | .int i, k, h => by rw [nkD] at h; cases h; rw [noT]; all_goals (intros; rename_i e; cases e)
  | .tuple xs, k, h => by
    rw [nkD] at h
    cases e : nkDs xs with
    | none => rw [e] at h; cases h
    | some ks => rw [e] at h; cases h; rw [noT]; exact nkDs_noT xs ks e
  | .str x, k, h => by simp [nkD] at h
  | .list xs, k, h => by simp [nkD] at h
  | .dict xs, k, h => by simp [nkD] at h
theorem nkDs_noT : ∀ (ds : List PyData) (ks : List NestedKey), nkDs ds = some ks → noTs ks = true
  | [], ks, h => by rw [nkDs] at h; cases h; rw [noTs]
  | d :: ds, ks, h => by
    rw [nkDs] at h
    cases e : nkD d with
    | none => rw [e] at h; cases h
    | some k =>
      rw [e] at h
      cases e2 : nkDs ds with
      | none => rw [e2] at h; cases h
      | some ks2 =>
        rw [e2] at h; cases h
        rw [noTs, nkD_noT d k e, nkDs_noT ds ks2 e2]; rfl
end
def NdP (a : Addr) (rs : List (NestedKey × Addr × V)) : Heap → Prop := fun h => rs.length ≤ sizeLine ∧ (a == sysModules) = false ∧ (∀ r ∈ rs, noT r.1 = true) ∧
  ∃ (w' : World) (xs : List (NestedKey × Addr × Value)) (o : Obj) (es : Array DictEntry) (ep : Nat), Paired (fun (p : NestedKey × Addr × V) (q : NestedKey × Addr × Value) => p.1 = q.1 ∧ p.2.1 = q.2.1 ∧ RelV p.2.2 q.2.2) rs xs ∧
    h.get? a = some o ∧ o.ExactDict ∧ o.data = .dict es ep ∧ es.toList = xs.map (fun x => (⟨x.1.hash w', .ref x.2.1, x.2.2⟩ : DictEntry)) ∧ (xs.map (·.1)).Nodup
def NdO (a : Addr) (rs : List (NestedKey × Addr × V)) : HO := .ext (NdP a rs)
theorem nd_obj {P : Program} {w : World} {H : Hp} {h : Heap} {a : Addr} {rs : List (NestedKey × Addr × V)} (n : NdP a rs h) : ObjOk P w H h a (NdO a rs) := by
  refine ⟨n, ?_, ?_⟩
  · obtain ⟨_, _, _, _, _, o, _, _, _, ho, _⟩ := n
    exact ⟨o, ho⟩
  · rintro h1 h2 ⟨n1, n2, n3, w', xs, o, es, ep, r, ho, q⟩ k
    exact ⟨n1, n2, n3, w', xs, o, es, ep, r, k o ho, q⟩
theorem nd_of_ok {P : Program} {w : World} {H : Hp} {h : Heap} {a : Addr} {rs : List (NestedKey × Addr × V)} (n : ObjOk P w H h a (NdO a rs)) : NdP a rs h := n.1
abbrev NdPair : NestedKey × Addr × V → NestedKey × Addr × Value → Prop := fun p q => p.1 = q.1 ∧ p.2.1 = q.2.1 ∧ RelV p.2.2 q.2.2
def ndGet (rs : List (NestedKey × Addr × V)) (k : NestedKey) : Option V := (rs.find? fun r => decide (r.1 = k)).map (·.2.2)
def ndPut (rs : List (NestedKey × Addr × V)) (k : NestedKey) (b : Addr) (v : V) : List (NestedKey × Addr × V) := if rs.any (fun r => decide (r.1 = k)) then rs.map (fun r => if r.1 = k then (r.1, r.2.1, v) else r) else rs ++ [(k, b, v)]
theorem nd_get {k : NestedKey} : ∀ {rs : List (NestedKey × Addr × V)} {xs : List (NestedKey × Addr × Value)}, Paired NdPair rs xs → (ndGet rs k = none ∧ atKey xs k = none) ∨ ∃ v p, ndGet rs k = some v ∧ atKey xs k = some p ∧ RelV v p.2
  | _, _, .nil => .inl ⟨rfl, rfl⟩
  | r :: rs, x :: xs, .cons h t => by
    obtain ⟨h1, h2, h3⟩ := h
    by_cases e : r.1 = k
    · refine .inr ⟨r.2.2, x.2, ?_, ?_, h3⟩
      · simp [ndGet, e]
      · simp [atKey, ← h1, e]
    · have e2 : ¬ x.1 = k := by rw [← h1]; exact e
      have g1 : ndGet (r :: rs) k = ndGet rs k := by simp [ndGet, List.find?_cons, e]
      have g2 : atKey (x :: xs) k = atKey xs k := by simp [atKey, List.find?_cons, e2]
      rw [g1, g2]
      exact nd_get t
theorem nd_any {k : NestedKey} : ∀ {rs : List (NestedKey × Addr × V)} {xs : List (NestedKey × Addr × Value)}, Paired NdPair rs xs → rs.any (fun r => decide (r.1 = k)) = (atKey xs k).isSome
  | _, _, .nil => rfl
  | r :: rs, x :: xs, .cons h t => by
    obtain ⟨h1, _, _⟩ := h
    by_cases e : r.1 = k
    · simp [atKey, ← h1, e]
    · have e2 : ¬ x.1 = k := by rw [← h1]; exact e
      have g2 : atKey (x :: xs) k = atKey xs k := by simp [atKey, List.find?_cons, e2]
      rw [g2, List.any_cons, decide_eq_false e, Bool.false_or]
      exact nd_any t
theorem nd_map {k : NestedKey} {v : V} {u : Value} (hv : RelV v u) : ∀ {rs : List (NestedKey × Addr × V)} {xs : List (NestedKey × Addr × Value)}, Paired NdPair rs xs → Paired NdPair (rs.map (fun r => if r.1 = k then (r.1, r.2.1, v) else r)) (xs.map (putAt k u))
  | _, _, .nil => .nil
  | r :: rs, x :: xs, .cons h t => by
    obtain ⟨h1, h2, h3⟩ := h
    refine .cons ?_ (nd_map hv t)
    unfold putAt
    show NdPair (if r.1 = k then (r.1, r.2.1, v) else r) _
    by_cases e : r.1 = k
    · rw [if_pos e, if_pos (by rw [← h1]; exact e)]; exact ⟨h1, h2, hv⟩
    · rw [if_neg e, if_neg (by rw [← h1]; exact e)]; exact ⟨h1, h2, h3⟩
theorem nd_snoc {rs : List (NestedKey × Addr × V)} {xs : List (NestedKey × Addr × Value)} (h : Paired NdPair rs xs) {r : NestedKey × Addr × V} {x : NestedKey × Addr × Value} (e : NdPair r x) : Paired NdPair (rs ++ [r]) (xs ++ [x]) := by
  induction h with
  | nil => exact .cons e .nil
  | cons a _ ih => exact .cons a ih
theorem nd_put {k : NestedKey} {b : Addr} {v : V} {u : Value} (hv : RelV v u) {rs : List (NestedKey × Addr × V)} {xs : List (NestedKey × Addr × Value)} (h : Paired NdPair rs xs) : Paired NdPair (ndPut rs k b v) (storedH xs k b u) := by
  unfold ndPut storedH
  rw [nd_any h]
  split
  · exact nd_map hv h
  · exact nd_snoc h ⟨rfl, rfl, hv⟩
theorem nd_rd {P : Program} {w : World} {h : Heap} {a : Addr} {rs : List (NestedKey × Addr × V)} (n : NdP a rs h) (hk : ∀ r ∈ rs, (nestedKind P w).is h r.1 r.2.1) : ∃ xs, Paired NdPair rs xs ∧ h.DictOfH (nestedKind P w) a xs := by
  obtain ⟨n1, n2, n3, w', xs, o, es, ep, r, ho, hx, hd, he, hn⟩ := n
  have all : ∀ {l : List (NestedKey × Addr × V)} {m : List (NestedKey × Addr × Value)}, Paired NdPair l m → (∀ r ∈ l, noT r.1 = true) → (∀ r ∈ l, (nestedKind P w).is h r.1 r.2.1) → (∀ x ∈ m, (nestedKind P w).is h x.1 x.2.1) ∧ m.map (fun x => (⟨x.1.hash w', .ref x.2.1, x.2.2⟩ : DictEntry)) = m.map (entryOfKey (nestedKind P w)) := by
    intro l m q
    induction q with
    | nil => intro _ _; exact ⟨(fun x hx => nomatch hx), rfl⟩
    | @cons p y ps ys hq t ih =>
      intro c1 c2
      obtain ⟨i1, i2⟩ := ih (fun r hr => c1 r (List.mem_cons_of_mem _ hr)) fun r hr => c2 r (List.mem_cons_of_mem _ hr)
      have e1 := c1 p List.mem_cons_self
      have e2 := c2 p List.mem_cons_self
      obtain ⟨h1, h2, _⟩ := hq
      refine ⟨fun x hx => ?_, ?_⟩
      · rcases List.mem_cons.mp hx with e | hx
        · subst e; rw [← h1, ← h2]; exact e2
        · exact i1 x hx
      · rw [List.map_cons, List.map_cons, i2]
        congr 1
        unfold entryOfKey
        have : y.1.hash w' = (nestedKind P w).hash y.1 := by rw [← h1]; exact hash_any w' w _ e1
        rw [← this]
  obtain ⟨a1, a2⟩ := all r n3 hk
  exact ⟨xs, r, o, es, ep, ho, hx, hd, by rw [he, a2], a1, hn⟩
theorem nd_wr {P : Program} {w : World} {h' : Heap} {a : Addr} {rs : List (NestedKey × Addr × V)} {xs : List (NestedKey × Addr × Value)} (hl : rs.length ≤ sizeLine) (ha : (a == sysModules) = false) (hn : ∀ r ∈ rs, noT r.1 = true) (r : Paired NdPair rs xs) (dd : h'.DictOfH (nestedKind P w) a xs) : NdP a rs h' := by
  obtain ⟨o, es, ep, ho, hx, hd, he, _, hnd⟩ := dd
  exact ⟨hl, ha, hn, w, xs, o, es, ep, r, ho, hx, hd, he, hnd⟩
theorem ndPut_noT {rs : List (NestedKey × Addr × V)} {k : NestedKey} {b : Addr} {v : V} (h : ∀ r ∈ rs, noT r.1 = true) (hk : noT k = true) : ∀ r ∈ ndPut rs k b v, noT r.1 = true := by
  unfold ndPut
  split
  · intro r hr
    obtain ⟨x, hx, rfl⟩ := List.mem_map.mp hr
    split
    · exact h x hx
    · exact h x hx
  · intro r hr
    rcases List.mem_append.mp hr with hr | hr
    · exact h r hr
    · have : r = (k, b, v) := by simpa using hr
      subst this; exact hk
theorem ndPut_len (rs : List (NestedKey × Addr × V)) (k : NestedKey) (b : Addr) (v : V) : (ndPut rs k b v).length ≤ rs.length + 1 := by
  unfold ndPut
  split <;> simp
section
variable {X : Cx} {pins : List (Addr × Obj)} {σ : St} {H : Hp} {s : Shared} {a b : Addr} {A : Around} {E : Value → Shared → Prop} {rs : List (NestedKey × Addr × V)} {k : NestedKey} {v : V} {r : Value}
def NdK (X : Cx) (h : Heap) (rs : List (NestedKey × Addr × V)) : Prop := ∀ r ∈ rs, (nestedKind X.prog X.w).is h r.1 r.2.1
theorem n_getItem {Q : Value → Shared → Prop} (hu : A.units + 9 < cLine) (I : Inv X pins σ H s) (e : Rd H a (NdO a rs)) (hk : NdK X s.heap rs) (hb : (nestedKind X.prog X.w).is s.heap k b) (g : ndGet rs k = some v) (h : ∀ w' s', Inv X pins σ H s' → RelV v w' → Q w' s') :
    wpAny (PySem.model X.prog X.w) A (getItem (.ref a) (.ref b)) Q E s := by
  obtain ⟨xs, rel, dd⟩ := nd_rd (nd_of_ok (e.ok I.hok)) hk
  rcases nd_get (k := k) rel with ⟨g1, _⟩ | ⟨v', p, g1, g2, g3⟩
  · rw [g] at g1; cases g1
  · rw [g] at g1; cases g1
    exact wpAny_getItem_heap (show A.units + 1 + 8 < cLine by omega) hb dd g2 (h p.2 _ (I.tok _) g3)
theorem n_notIn {Q : Value → Shared → Prop} (hu : A.units + 9 < cLine) (I : Inv X pins σ H s) (e : Rd H a (NdO a rs)) (hk : NdK X s.heap rs) (hb : (nestedKind X.prog X.w).is s.heap k b) (h : ∀ s', Inv X pins σ H s' → Q (.bool (!(ndGet rs k).isSome)) s') :
    wpAny (PySem.model X.prog X.w) A (compareOp .NotIn (.ref b) (.ref a)) Q E s := by
  have n := nd_of_ok (e.ok I.hok)
  obtain ⟨xs, rel, dd⟩ := nd_rd n hk
  refine wpAny_notIn_heap (show A.units + 1 + 8 < cLine by omega) hb n.2.1 dd ?_
  have : (atKey xs k).isSome = (ndGet rs k).isSome := by
    rcases nd_get (k := k) rel with ⟨g1, g2⟩ | ⟨v', p, g1, g2, _⟩ <;> rw [g1, g2] <;> rfl
  rw [this]
  exact h _ (I.tok _)
theorem n_setItem {Q : Unit → Shared → Prop} (hu : A.units + 9 < cLine) (I : Inv X pins σ H s) (e : H a = some (NdO a rs)) (hk : NdK X s.heap rs) (hb : (nestedKind X.prog X.w).is s.heap k b) (ht : noT k = true) (hl : rs.length < sizeLine) (rv : RelV v r) (h : ∀ s', Inv X pins σ (upd H a (NdO a (ndPut rs k b v))) s' → Q () s') :
    wpAny (PySem.model X.prog X.w) A (setItem (.ref a) (.ref b) r) Q E s := by
  have n := nd_of_ok ((Rd.of e).ok I.hok)
  obtain ⟨xs, rel, dd⟩ := nd_rd n hk
  have hz : xs.length ≤ sizeLine := by rw [← Paired.length rel]; omega
  refine wpAny_setItem_heap (hsz := hz) (show A.units + 1 + 8 < cLine by omega) hb dd fun h' dd' hs => h _ ?_
  have hl2 := ndPut_len rs k b v
  have hq : ∃ q, h'.get? a = some q := let ⟨q, _, _, hq, _⟩ := dd'; ⟨q, hq⟩
  exact d_write I (by rw [e]; exact True.intro) hs hq (nd_obj (nd_wr (by omega) n.2.1 (ndPut_noT n.2.2.1 ht) (nd_put rv rel) dd'))
def tDNewN : TE := fun _ H Q => ∀ p, H p = none → Q (.ref p) (upd H p (NdO p []))
theorem nd_empty {P : Program} {w : World} {H : Hp} (h : Heap) (hb : sysModules < h.objs.size) : ObjOk P w H (h.push { cls := .type "dict", data := .dict #[] }) h.objs.size (NdO h.objs.size []) :=
  nd_obj ⟨Nat.zero_le _, beq_eq_false_iff_ne.mpr (Ne.symm (Nat.ne_of_lt hb)), (fun _ h => nomatch h), w, [], _, #[], 0, .nil, Heap.get?_push_size _ rfl, ⟨rfl, rfl, rfl⟩, rfl, rfl, List.nodup_nil⟩
theorem pe_dnewN {pos : Pos} : PE X (.Dict [] [] pos) tDNewN := ⟨fun pins s σ H Q I h =>
  wpAny_Dict_empty ⟨.ref s.heap.objs.size, _, I.laid (a := s.heap.objs.size) (o := NdO s.heap.objs.size []) (t' := s.toks) (fun _ _ q => Heap.get?_push_of_some _ q) (Nat.le_refl _) (nd_empty s.heap I.big), rfl, h _ (I.hok.fresh (Nat.le_refl _))⟩⟩
end
end PD
set_option Elab.async false
set_option linter.all false
set_option maxRecDepth 100000
set_option maxHeartbeats 4000000
namespace PD
open PySem L2
abbrev Rg := Addr → HO → Prop
def LsR (K : PySem.W.Frag) (G : Rg) (a : Addr) (xs : List V) : Prop :=
  G a (.lst xs) ∨ (∃ o, G a (.frz o (.lst xs))) ∨ SqL K (fun _ => none) a xs
def keyD : Key → PyData
  | .inl i => .int i
  | .inr x => .str x
inductive Dk where
  | k
  | t
  | n
def encK (ks : List PyData) : List PyData := PyData.none :: ks.flatMap fun d => [d, .none]
def encV (rs : List (NestedKey × Addr × V)) : List V := V.non :: rs.flatMap fun r => [r.2.2, .ref r.2.1]
def DcO : Dk → Addr → HO → List PyData → List V → Prop
  | .k, _, o, ks, vs => ∃ kvs : List (Key × V), o = .dK kvs ∧ ks = kvs.map (fun z => keyD z.1) ∧ vs = kvs.map (·.2)
  | .t, _, o, ks, vs => ∃ kvs : List (List Key × V), o = .dT kvs ∧ ks = kvs.map (fun z => .tuple (z.1.map keyD)) ∧ vs = kvs.map (·.2)
  | .n, a, o, ks, vs => ∃ (rs : List (NestedKey × Addr × V)) (kds : List PyData), o = NdO a rs ∧ kds.map nkD = rs.map (fun r => some r.1) ∧ (∀ r ∈ rs, r.1.depth ≤ 8) ∧ ks = encK kds ∧ vs = encV rs
def XvO (K : PySem.W.Frag) (nm : Str) (d : Option Addr) (a : Addr) : HO :=
  .ext fun h => ∃ (oe : Obj) (vs : Array Value), h.get? a = some oe ∧ Zc (.ref (He.ga K nm)) d oe ∧ oe.data = .fields vs
abbrev inD (nm : Str) (flds : List (Str × PyData)) : PyData := .dict ((.bool true, .str nm) :: flds.map fun z => (PyData.str z.1, z.2))
def dkD : Dk → PyData
  | .k => .int 0
  | .t => .int 1
  | .n => .int 2
abbrev udD (t : Dk) (kvs : List (PyData × PyData)) : PyData := .dict ((.bool false, dkD t) :: kvs)
abbrev xcD (nm : Str) (flds : List (Str × PyData)) : PyData := .dict ((.none, .str nm) :: flds.map fun z => (PyData.str z.1, z.2))
mutual
inductive Dn (K : PySem.W.Frag) (G : Rg) (H : Hp) : V → PyData → Prop
  | non : Dn K G H .non .none
  | bl (b : Bool) : Dn K G H (.bl b) (.bool b)
  | int (i : Int) : Dn K G H (.int i) (.int i)
  | str (x : Str) : Dn K G H (.str x) (.str x)
  | lst {a : Addr} {xs : List V} {ds : List PyData} : LsR K G a xs → DnA K G H xs ds → Dn K G H (.ref a) (.list ds)
  | tup {a : Addr} {xs : List V} {ds : List PyData} : H a = some (.tup xs) → DnA K G H xs ds → Dn K G H (.ref a) (.tuple ds)
  | dct {a : Addr} {o : HO} {t : Dk} {vs : List V} {kvs : List (PyData × PyData)} : (∃ ob, G a (.frz ob o)) → DcO t a o (kvs.map (·.1)) vs → DnA K G H vs (kvs.map (·.2)) → Dn K G H (.ref a) (.dict kvs)
  | exc {a dd : Addr} {nm : Str} {fs : List (Str × V)} {flds : List (Str × PyData)} : G a (XvO K nm (some dd) a) → G dd (.xd fs) → fs.map (·.1) = flds.map (·.1) → DnA K G H (fs.map (·.2)) (flds.map (·.2)) → Dn K G H (.ref a) (xcD nm flds)
  | exc0 {a : Addr} {nm : Str} : G a (XvO K nm none a) → Dn K G H (.ref a) (xcD nm [])
  | ins {a dx : Addr} {nm : Str} {fs : List (Str × V)} {flds : List (Str × PyData)} : G a (.ins (He.ga K nm) dx fs) → G dx (.own a) → fs.map (·.1) = flds.map (·.1) → DnA K G H (fs.map (·.2)) (flds.map (·.2)) → Dn K G H (.ref a) (inD nm flds)
  | dcu {a : Addr} {o : HO} {t : Dk} {vs : List V} {kvs : List (PyData × PyData)} : G a o → DcO t a o (kvs.map (·.1)) vs → DnA K G H vs (kvs.map (·.2)) → Dn K G H (.ref a) (udD t kvs)
inductive DnA (K : PySem.W.Frag) (G : Rg) (H : Hp) : List V → List PyData → Prop
  | nil : DnA K G H [] []
  | cons {v : V} {vs : List V} {d : PyData} {ds : List PyData} : Dn K G H v d → DnA K G H vs ds → DnA K G H (v :: vs) (d :: ds)
end
def TupLe (H H' : Hp) : Prop := ∀ a xs, H a = some (.tup xs) → H' a = some (.tup xs)
theorem TupLe.rf (H : Hp) : TupLe H H := fun _ _ h => h
theorem TupLe.tr {H H1 H2 : Hp} (a : TupLe H H1) (b : TupLe H1 H2) : TupLe H H2 := fun c xs h => b c xs (a c xs h)
def RgLe (G G' : Rg) : Prop := ∀ a o, G a o → G' a o
theorem LsR.mono {K : PySem.W.Frag} {G G' : Rg} {a : Addr} {xs : List V} (h : LsR K G a xs) (g : RgLe G G') : LsR K G' a xs := by
  rcases h with h | ⟨o, h⟩ | h
  · exact .inl (g _ _ h)
  · exact .inr (.inl ⟨o, g _ _ h⟩)
  · exact .inr (.inr h)
mutual
theorem Dn.mono {K : PySem.W.Frag} {G G' : Rg} {H H' : Hp} (g : RgLe G G') (t : TupLe H H') : ∀ {v : V} {d : PyData}, Dn K G H v d → Dn K G' H' v d
  | _, _, .non => .non
  | _, _, .bl b => .bl b
  | _, _, .int i => .int i
  | _, _, .str x => .str x
  | _, _, .lst h a => .lst (h.mono g) (DnA.mono g t a)
  | _, _, .tup h a => .tup (t _ _ h) (DnA.mono g t a)
  | _, _, .dct h c a => .dct (h.imp fun _ z => g _ _ z) c (DnA.mono g t a)
  | _, _, .exc h1 h2 e a => .exc (g _ _ h1) (g _ _ h2) e (DnA.mono g t a)
  | _, _, .exc0 h => .exc0 (g _ _ h)
  | _, _, .ins h1 h2 e a => .ins (g _ _ h1) (g _ _ h2) e (DnA.mono g t a)
  | _, _, .dcu h c a => .dcu (g _ _ h) c (DnA.mono g t a)
theorem DnA.mono {K : PySem.W.Frag} {G G' : Rg} {H H' : Hp} (g : RgLe G G') (t : TupLe H H') : ∀ {vs : List V} {ds : List PyData}, DnA K G H vs ds → DnA K G' H' vs ds
  | _, _, .nil => .nil
  | _, _, .cons h a => .cons (Dn.mono g t h) (DnA.mono g t a)
end
def flat : PyData → Bool
  | .none => true
  | .bool _ => true
  | .int _ => true
  | .str _ => true
  | .tuple xs => flatA xs
  | _ => false
where flatA : List PyData → Bool
  | [] => true
  | d :: ds => flat d && flatA ds
mutual
theorem Dn.free {K : PySem.W.Frag} {G G' : Rg} {H : Hp} : ∀ {v : V} {d : PyData}, Dn K G H v d → flat d = true → Dn K G' H v d
  | _, _, .non, _ => .non
  | _, _, .bl b, _ => .bl b
  | _, _, .int i, _ => .int i
  | _, _, .str x, _ => .str x
  | _, _, .lst _ _, h => by simp [flat] at h
  | _, _, .tup h a, f => .tup h (DnA.free a (by simpa [flat] using f))
  | _, _, .dct _ _ _, h => by simp [flat] at h
  | _, _, .exc _ _ _ _, h => by simp [flat] at h
  | _, _, .exc0 _, h => by simp [flat] at h
  | _, _, .ins _ _ _ _, h => by simp [flat] at h
  | _, _, .dcu _ _ _, h => by simp [flat] at h
theorem DnA.free {K : PySem.W.Frag} {G G' : Rg} {H : Hp} : ∀ {vs : List V} {ds : List PyData}, DnA K G H vs ds → flat.flatA ds = true → DnA K G' H vs ds
  | _, _, .nil, _ => .nil
  | _, _, .cons h a, f => by
    simp only [flat.flatA, Bool.and_eq_true] at f
    exact .cons (Dn.free h f.1) (DnA.free a f.2)
end
theorem DnA.length {K : PySem.W.Frag} {G : Rg} {H : Hp} : ∀ {vs : List V} {ds : List PyData}, DnA K G H vs ds → vs.length = ds.length
  | _, _, .nil => rfl
  | _, _, .cons _ a => by simp [a.length]
theorem DnA.get {K : PySem.W.Frag} {G : Rg} {H : Hp} : ∀ {vs : List V} {ds : List PyData} {i : Nat} {v : V}, DnA K G H vs ds → vs[i]? = some v → ∃ d, ds[i]? = some d ∧ Dn K G H v d
  | _, _, _, _, .nil, e => by simp at e
  | _, _, 0, _, .cons h _, e => by simp at e; subst e; exact ⟨_, rfl, h⟩
  | _, _, i + 1, v, .cons _ a, e => by
    obtain ⟨d, h1, h2⟩ := DnA.get (i := i) (v := v) a (by simpa using e)
    exact ⟨d, by simpa using h1, h2⟩
theorem DnA.get' {K : PySem.W.Frag} {G : Rg} {H : Hp} : ∀ {vs : List V} {ds : List PyData} {i : Nat} {d : PyData}, DnA K G H vs ds → ds[i]? = some d → ∃ v, vs[i]? = some v ∧ Dn K G H v d
  | _, _, _, _, .nil, e => by simp at e
  | _, _, 0, _, .cons h _, e => by simp at e; subst e; exact ⟨_, rfl, h⟩
  | _, _, i + 1, v, .cons _ a, e => by
    obtain ⟨d, h1, h2⟩ := DnA.get' (i := i) (d := v) a (by simpa using e)
    exact ⟨d, by simpa using h1, h2⟩
theorem DnA.append {K : PySem.W.Frag} {G : Rg} {H : Hp} : ∀ {vs ws : List V} {ds es : List PyData}, DnA K G H vs ds → DnA K G H ws es → DnA K G H (vs ++ ws) (ds ++ es)
  | _, _, _, _, .nil, b => b
  | _, _, _, _, .cons h a, b => .cons h (DnA.append a b)
theorem DnA.drop {K : PySem.W.Frag} {G : Rg} {H : Hp} : ∀ {vs : List V} {ds : List PyData} (n : Nat), DnA K G H vs ds → DnA K G H (vs.drop n) (ds.drop n)
  | _, _, 0, a => a
  | _, _, _ + 1, .nil => .nil
  | _, _, n + 1, .cons _ a => DnA.drop n a
theorem DnA.take {K : PySem.W.Frag} {G : Rg} {H : Hp} : ∀ {vs : List V} {ds : List PyData} (n : Nat), DnA K G H vs ds → DnA K G H (vs.take n) (ds.take n)
  | _, _, 0, _ => .nil
  | _, _, _ + 1, .nil => .nil
  | _, _, n + 1, .cons h a => .cons h (DnA.take n a)
theorem DnA.set {K : PySem.W.Frag} {G : Rg} {H : Hp} {v : V} {d : PyData} (h : Dn K G H v d) : ∀ {vs : List V} {ds : List PyData} (i : Nat), DnA K G H vs ds → DnA K G H (vs.set i v) (ds.set i d)
  | _, _, _, .nil => .nil
  | _, _, 0, .cons _ a => .cons h a
  | _, _, i + 1, .cons q a => .cons q (DnA.set h i a)
theorem DnA.reverse {K : PySem.W.Frag} {G : Rg} {H : Hp} : ∀ {vs : List V} {ds : List PyData}, DnA K G H vs ds → DnA K G H vs.reverse ds.reverse
  | _, _, .nil => .nil
  | _, _, .cons h a => by
    rw [List.reverse_cons, List.reverse_cons]
    exact DnA.append (DnA.reverse a) (.cons h .nil)
theorem dn_int {K : PySem.W.Frag} {G : Rg} {H : Hp} {v : V} {i : Int} (h : Dn K G H v (.int i)) : v = .int i := by cases h; rfl
theorem dn_bool {K : PySem.W.Frag} {G : Rg} {H : Hp} {v : V} {b : Bool} (h : Dn K G H v (.bool b)) : v = .bl b := by cases h; rfl
theorem dn_str {K : PySem.W.Frag} {G : Rg} {H : Hp} {v : V} {x : Str} (h : Dn K G H v (.str x)) : v = .str x := by cases h; rfl
theorem dn_none {K : PySem.W.Frag} {G : Rg} {H : Hp} {v : V} (h : Dn K G H v .none) : v = .non := by cases h; rfl
theorem dn_list {K : PySem.W.Frag} {G : Rg} {H : Hp} {v : V} {ds : List PyData} (h : Dn K G H v (.list ds)) : ∃ a xs, v = .ref a ∧ LsR K G a xs ∧ DnA K G H xs ds := by
  cases h with | lst h a => exact ⟨_, _, rfl, h, a⟩
theorem dn_tupleH {K : PySem.W.Frag} {G : Rg} {H : Hp} {v : V} {ds : List PyData} (h : Dn K G H v (.tuple ds)) : ∃ a xs, v = .ref a ∧ H a = some (.tup xs) ∧ DnA K G H xs ds := by
  cases h with | tup h a => exact ⟨_, _, rfl, h, a⟩
theorem dn_tuple {K : PySem.W.Frag} {G : Rg} {H : Hp} {v : V} {ds : List PyData} (h : Dn K G H v (.tuple ds)) : ∃ a xs, v = .ref a ∧ SqT K H a xs ∧ DnA K G H xs ds := by
  cases h with | tup h a => exact ⟨_, _, rfl, SqT.of h, a⟩
theorem dna_ints {K : PySem.W.Frag} {G : Rg} {H : Hp} : ∀ {ns : List Int} {vs : List V}, DnA K G H vs (ns.map PyData.int) → vs = ns.map V.int
  | [], _, .nil => rfl
  | n :: ns, _, .cons h a => by rw [dn_int h, dna_ints a]; rfl
theorem ints_dna {K : PySem.W.Frag} {G : Rg} {H : Hp} : ∀ (ns : List Int), DnA K G H (ns.map V.int) (ns.map PyData.int)
  | [] => .nil
  | n :: ns => .cons (.int n) (ints_dna ns)
abbrev RgH (H : Hp) : Rg := fun a o => H a = some o
theorem LsR.sq {K : PySem.W.Frag} {H : Hp} {a : Addr} {xs : List V} (h : LsR K (RgH H) a xs) : SqL K H a xs := by
  rcases h with h | ⟨o, h⟩ | h
  · exact .inl (.inl h)
  · exact .inl (.inr ⟨o, h⟩)
  · rcases h with (h | ⟨o, h⟩) | h
    · cases h
    · cases h
    · exact .inr h
theorem LsR.of_sq {K : PySem.W.Frag} {H : Hp} {a : Addr} {xs : List V} (h : SqL K H a xs) : LsR K (RgH H) a xs := by
  rcases h with (h | ⟨o, h⟩) | h
  · exact .inl h
  · exact .inr (.inl ⟨o, h⟩)
  · exact .inr (.inr (.inr h))
mutual
theorem Dn.dp {K : PySem.W.Frag} {H : Hp} : ∀ {v : V} {d : PyData}, Dn K (RgH H) H v d → d.canLay0 = true → Dp K H v d
  | _, _, .non, _ => .non
  | _, _, .bl b, _ => .bl b
  | _, _, .int i, _ => .int i
  | _, _, .str x, _ => .str x
  | _, _, .lst h a, c => .lst h.sq (DnA.dp a (by rw [PyData.canLay0] at c; exact c))
  | _, _, .tup h a, c => .tup (SqT.of h) (DnA.dp a (by rw [PyData.canLay0] at c; exact c))
  | _, _, .dct _ _ _, c => by rw [PyData.canLay0] at c; cases c
  | _, _, .exc _ _ _ _, c => by rw [PyData.canLay0] at c; cases c
  | _, _, .exc0 _, c => by rw [PyData.canLay0] at c; cases c
  | _, _, .ins _ _ _ _, c => by rw [PyData.canLay0] at c; cases c
  | _, _, .dcu _ _ _, c => by rw [PyData.canLay0] at c; cases c
theorem DnA.dp {K : PySem.W.Frag} {H : Hp} : ∀ {vs : List V} {ds : List PyData}, DnA K (RgH H) H vs ds → PyData.canLayAll0 ds = true → DpAll K H vs ds
  | _, _, .nil, _ => .nil
  | _, _, .cons h a, c => by
    rw [PyData.canLayAll0, Bool.and_eq_true] at c
    exact .cons (Dn.dp h c.1) (DnA.dp a c.2)
end
theorem Dn.dps {K : PySem.W.Frag} {H : Hp} {v : V} {d : PyData} (h : Dn K (RgH H) H v d) (c : SeqAt.shaped d = true) : Dp K H v d := h.dp (SeqAt.canLay_of_shaped c)
structure Gh where
  H0 : Hp
  P : List Addr
  I : Nat → Option V
  N : Hp
  E : Hp
abbrev RgN (G : Gh) : Rg := fun a o => G.N a = some o
def RgA (G : Gh) : Rg := fun a o => G.N a = some o ∨ (G.H0 a = some o ∧ a ∉ G.P)
def rg (G : Gh) : Bool → Rg
  | true => RgN G
  | false => RgA G
structure Wf (G : Gh) (H : Hp) : Prop where
  keep : ∀ a o, G.H0 a = some o → a ∉ G.P → H a = some o
  new : ∀ a o, G.N a = some o → H a = some o ∧ True
  pal : ∀ a, a ∈ G.P → H a ≠ none
  p0 : ∀ a, a ∈ G.P → G.H0 a ≠ none
  ex : ∀ a o, G.E a = some o → H a = some o ∧ G.N a = none ∧ G.H0 a = none ∧ a ∉ G.P
  iv : ∀ i p, G.I i = some (.ref p) → p ∈ G.P ∨ G.E p ≠ none ∨ ∃ xs, H p = some (.tup xs)
theorem Wf.rgl {G : Gh} {H : Hp} (w : Wf G H) (fr : Bool) : RgLe (rg G fr) (RgH H) := fun a o h => by
  cases fr with
  | true => exact (w.new a o h).1
  | false =>
    rcases h with h | ⟨h1, h2⟩
    · exact (w.new a o h).1
    · exact w.keep a o h1 h2
theorem Wf.dn {K : PySem.W.Frag} {G : Gh} {H : Hp} {fr : Bool} {v : V} {d : PyData} (w : Wf G H) (h : Dn K (rg G fr) H v d) : Dn K (RgH H) H v d := h.mono (w.rgl fr) (TupLe.rf _)
theorem rg_ff (G : Gh) (fr : Bool) : RgLe (rg G fr) (rg G false) := fun a o h => by
  cases fr with
  | true => exact .inl h
  | false => exact h
structure Ext (G : Gh) (H : Hp) (G' : Gh) (H' : Hp) : Prop where
  h0 : G'.H0 = G.H0
  p : G'.P = G.P
  i : G'.I = G.I
  e : G'.E = G.E
  n : ∀ a o, G.N a = some o → G'.N a = some o
  nn : ∀ a o, G'.N a = some o → G.N a = some o ∨ G.H0 a = none
  t : TupLe H H'
  w : Wf G' H'
theorem Ext.rf {G : Gh} {H : Hp} (w : Wf G H) : Ext G H G H := ⟨rfl, rfl, rfl, rfl, fun _ _ h => h, fun _ _ h => .inl h, TupLe.rf _, w⟩
theorem Ext.tr {G G1 G2 : Gh} {H H1 H2 : Hp} (a : Ext G H G1 H1) (b : Ext G1 H1 G2 H2) : Ext G H G2 H2 :=
  ⟨b.h0.trans a.h0, b.p.trans a.p, b.i.trans a.i, b.e.trans a.e, fun c o h => b.n c o (a.n c o h), fun c o h => (b.nn c o h).elim (a.nn c o) (fun z => .inr (by rw [← a.h0]; exact z)), a.t.tr b.t, b.w⟩
theorem Ext.rgl {G G' : Gh} {H H' : Hp} (e : Ext G H G' H') (fr : Bool) : RgLe (rg G fr) (rg G' fr) := fun a o h => by
  cases fr with
  | true => exact e.n a o h
  | false =>
    rcases h with h | ⟨h1, h2⟩
    · exact .inl (e.n a o h)
    · exact .inr ⟨by rw [e.h0]; exact h1, by rw [e.p]; exact h2⟩
theorem Ext.dn {K : PySem.W.Frag} {G G' : Gh} {H H' : Hp} {fr : Bool} {v : V} {d : PyData} (e : Ext G H G' H') (h : Dn K (rg G fr) H v d) : Dn K (rg G' fr) H' v d := h.mono (e.rgl fr) e.t
theorem Ext.dna {K : PySem.W.Frag} {G G' : Gh} {H H' : Hp} {fr : Bool} {v : List V} {d : List PyData} (e : Ext G H G' H') (h : DnA K (rg G fr) H v d) : DnA K (rg G' fr) H' v d := h.mono (e.rgl fr) e.t
structure Le (G : Gh) (H : Hp) (G' : Gh) (H' : Hp) : Prop where
  h0 : G'.H0 = G.H0
  p : G'.P = G.P
  n : ∀ a o, G.N a = some o → G'.N a = some o
  nn : ∀ a o, G'.N a = some o → G.N a = some o ∨ G.H0 a = none
  t : TupLe H H'
  w : Wf G' H'
  e : ∀ a o, G.E a = some o → G'.E a = some o
theorem Ext.le {G G' : Gh} {H H' : Hp} (e : Ext G H G' H') : Le G H G' H' := ⟨e.h0, e.p, e.n, e.nn, e.t, e.w, fun a o h => by rw [e.e]; exact h⟩
theorem Le.tr {G G1 G2 : Gh} {H H1 H2 : Hp} (a : Le G H G1 H1) (b : Le G1 H1 G2 H2) : Le G H G2 H2 := ⟨b.h0.trans a.h0, b.p.trans a.p, fun c o h => b.n c o (a.n c o h), fun c o h => (b.nn c o h).elim (a.nn c o) (fun z => .inr (by rw [← a.h0]; exact z)), a.t.tr b.t, b.w, fun c o h => b.e c o (a.e c o h)⟩
theorem Le.rgl {G G' : Gh} {H H' : Hp} (e : Le G H G' H') (fr : Bool) : RgLe (rg G fr) (rg G' fr) := fun a o h => by
  cases fr with
  | true => exact e.n a o h
  | false =>
    rcases h with h | ⟨h1, h2⟩
    · exact .inl (e.n a o h)
    · exact .inr ⟨by rw [e.h0]; exact h1, by rw [e.p]; exact h2⟩
theorem Le.dna {K : PySem.W.Frag} {G G' : Gh} {H H' : Hp} {fr : Bool} {v : List V} {d : List PyData} (e : Le G H G' H') (h : DnA K (rg G fr) H v d) : DnA K (rg G' fr) H' v d := h.mono (e.rgl fr) e.t
abbrev Fd := List Int × Int × Int
def fdK (l : Addr) (t s : Int) : List (Key × V) := [(.inr "cells", .ref l), (.inr "turn", .int t), (.inr "seed", .int s)]
inductive Tre where
  | d (x : PyData)
  | lst (ts : List Tre)
  | tup (ts : List Tre)
  | dic (t : Dk) (ks : List PyData) (ts : List Tre)
  | ins (nm : Str) (fs : List Str) (ts : List Tre)
mutual
inductive TreOk (K : PySem.W.Frag) (G : Rg) (H : Hp) : V → List Addr → Tre → Prop
  | d {v : V} {x : PyData} : Dn K G H v x → TreOk K G H v [] (.d x)
  | lst {p : Addr} {vs : List V} {fp : List Addr} {ts : List Tre} : H p = some (.lst vs) → TresOk K G H vs fp ts → p ∉ fp → TreOk K G H (.ref p) (p :: fp) (.lst ts)
  | tup {p : Addr} {vs : List V} {fp : List Addr} {ts : List Tre} : H p = some (.tup vs) → TresOk K G H vs fp ts → TreOk K G H (.ref p) fp (.tup ts)
  | dic {p : Addr} {o : HO} {t : Dk} {ks : List PyData} {vs : List V} {fp : List Addr} {ts : List Tre} : H p = some o → DcO t p o ks vs → TresOk K G H vs fp ts → p ∉ fp → TreOk K G H (.ref p) (p :: fp) (.dic t ks ts)
  | ins {p dx : Addr} {nm : Str} {fs : List (Str × V)} {fp : List Addr} {ts : List Tre} : H p = some (.ins (He.ga K nm) dx fs) → H dx = some (.own p) → p ≠ dx → TresOk K G H (fs.map (·.2)) fp ts → p ∉ fp → dx ∉ fp → TreOk K G H (.ref p) (p :: dx :: fp) (.ins nm (fs.map (·.1)) ts)
inductive TresOk (K : PySem.W.Frag) (G : Rg) (H : Hp) : List V → List Addr → List Tre → Prop
  | nil : TresOk K G H [] [] []
  | cons {v : V} {vs : List V} {f1 f2 : List Addr} {t : Tre} {ts : List Tre} : TreOk K G H v f1 t → TresOk K G H vs f2 ts → (∀ p ∈ f1, p ∉ f2) → TresOk K G H (v :: vs) (f1 ++ f2) (t :: ts)
end
mutual
theorem TreOk.mono {K : PySem.W.Frag} {G G' : Rg} {H H' : Hp} (g : RgLe G G') (t : TupLe H H') : ∀ {v : V} {fp : List Addr} {T : Tre}, TreOk K G H v fp T → (∀ a ∈ fp, H' a = H a) → TreOk K G' H' v fp T
  | _, _, _, .d h, _ => .d (h.mono g t)
  | _, _, _, .lst h a n, k => .lst (by rw [k _ (by simp)]; exact h) (TresOk.mono g t a fun q hq => k q (by simp [hq])) n
  | _, _, _, .tup h a, k => .tup (t _ _ h) (TresOk.mono g t a k)
  | _, _, _, .dic h c a n, k => .dic (by rw [k _ (by simp)]; exact h) c (TresOk.mono g t a fun q hq => k q (by simp [hq])) n
  | _, _, _, .ins h1 h2 ne a n1 n2, k => .ins (by rw [k _ (by simp)]; exact h1) (by rw [k _ (by simp)]; exact h2) ne (TresOk.mono g t a fun q hq => k q (by simp [hq])) n1 n2
theorem TresOk.mono {K : PySem.W.Frag} {G G' : Rg} {H H' : Hp} (g : RgLe G G') (t : TupLe H H') : ∀ {vs : List V} {fp : List Addr} {ts : List Tre}, TresOk K G H vs fp ts → (∀ a ∈ fp, H' a = H a) → TresOk K G' H' vs fp ts
  | _, _, _, .nil, _ => .nil
  | _, _, _, .cons h a n, k => .cons (TreOk.mono g t h fun q hq => k q (by simp [hq])) (TresOk.mono g t a fun q hq => k q (by simp [hq])) n
end
def Nt (H : Hp) (p : Addr) : Prop := ∃ o, H p = some o ∧ (∀ xs, o ≠ .tup xs) ∧ ∀ x y, o ≠ .frz x y
theorem DcO.nt {t : Dk} {a : Addr} {o : HO} {ks : List PyData} {vs : List V} (h : DcO t a o ks vs) : (∀ xs, o ≠ .tup xs) ∧ ∀ x y, o ≠ .frz x y := by
  cases t with
  | k => obtain ⟨_, rfl, _⟩ := h; exact ⟨fun _ z => (nomatch z), fun _ _ z => (nomatch z)⟩
  | t => obtain ⟨_, rfl, _⟩ := h; exact ⟨fun _ z => (nomatch z), fun _ _ z => (nomatch z)⟩
  | n => obtain ⟨_, _, rfl, _⟩ := h; exact ⟨fun _ z => (nomatch z), fun _ _ z => (nomatch z)⟩
mutual
theorem TreOk.nt {K : PySem.W.Frag} {G : Rg} {H : Hp} : ∀ {v : V} {fp : List Addr} {T : Tre}, TreOk K G H v fp T → ∀ p ∈ fp, Nt H p
  | _, _, _, .d h, p, hp => by cases hp
  | _, _, _, .lst h a n, p, hp => by
    rcases List.mem_cons.mp hp with rfl | hp
    · exact ⟨_, h, fun _ z => (nomatch z), fun _ _ z => (nomatch z)⟩
    · exact TresOk.nt a p hp
  | _, _, _, .tup h a, p, hp => TresOk.nt a p hp
  | _, _, _, .dic h c a n, p, hp => by
    rcases List.mem_cons.mp hp with rfl | hp
    · exact ⟨_, h, c.nt.1, c.nt.2⟩
    · exact TresOk.nt a p hp
  | _, _, _, .ins h1 h2 ne a n1 n2, p, hp => by
    rcases List.mem_cons.mp hp with rfl | hp
    · exact ⟨_, h1, fun _ z => (nomatch z), fun _ _ z => (nomatch z)⟩
    · rcases List.mem_cons.mp hp with rfl | hp
      · exact ⟨_, h2, fun _ z => (nomatch z), fun _ _ z => (nomatch z)⟩
      · exact TresOk.nt a p hp
theorem TresOk.nt {K : PySem.W.Frag} {G : Rg} {H : Hp} : ∀ {vs : List V} {fp : List Addr} {ts : List Tre}, TresOk K G H vs fp ts → ∀ p ∈ fp, Nt H p
  | _, _, _, .nil, p, hp => by cases hp
  | _, _, _, .cons h a n, p, hp => by
    rcases List.mem_append.mp hp with hp | hp
    · exact TreOk.nt h p hp
    · exact TresOk.nt a p hp
end
mutual
def trD : Tre → Option PyData
  | .d x => some x
  | .lst ts => (trDs ts).map PyData.list
  | .tup ts => (trDs ts).map PyData.tuple
  | .dic t ks ts => (trDs ts).map fun ds => udD t (ks.zip ds)
  | .ins nm fs ts => (trDs ts).map fun ds => inD nm (fs.zip ds)
def trDs : List Tre → Option (List PyData)
  | [] => some []
  | t :: ts => (trD t).bind fun d => (trDs ts).map (d :: ·)
end
theorem TresOk.len1 {K : PySem.W.Frag} {G : Rg} {H : Hp} : ∀ {vs : List V} {fp : List Addr} {ts : List Tre}, TresOk K G H vs fp ts → vs.length = ts.length
  | _, _, _, .nil => rfl
  | _, _, _, .cons _ a _ => by simp [TresOk.len1 a]
theorem trDs_len : ∀ {ts : List Tre} {ds : List PyData}, trDs ts = some ds → ts.length = ds.length
  | [], _, h => by rw [trDs] at h; cases h; rfl
  | t :: ts, ds, h => by
    rw [trDs] at h
    cases q : trD t with
    | none => rw [q] at h; cases h
    | some d =>
      rw [q] at h
      have h : (trDs ts).map (d :: ·) = some ds := h
      cases q2 : trDs ts with
      | none => rw [q2] at h; cases h
      | some es =>
        rw [q2] at h
        cases h
        simp [trDs_len q2]
theorem DcO.len {t : Dk} {a : Addr} {o : HO} {ks : List PyData} {vs : List V} (h : DcO t a o ks vs) : ks.length = vs.length := by
  cases t with
  | k => obtain ⟨kvs, _, rfl, rfl⟩ := h; simp
  | t => obtain ⟨kvs, _, rfl, rfl⟩ := h; simp
  | n =>
    obtain ⟨rs, kds, _, e, _, rfl, rfl⟩ := h
    have e : kds.length = rs.length := by have := congrArg List.length e; simpa using this
    have l1 : ∀ l : List PyData, (l.flatMap fun d => [d, PyData.none]).length = 2 * l.length := fun l => by
      induction l with
      | nil => rfl
      | cons x r ih => simp [ih]; omega
    have l2 : ∀ l : List (NestedKey × Addr × V), (l.flatMap fun r => [r.2.2, V.ref r.2.1]).length = 2 * l.length := fun l => by
      induction l with
      | nil => rfl
      | cons x r ih => simp [ih]; omega
    show (PyData.none :: _).length = (V.non :: _).length
    rw [List.length_cons, List.length_cons, l1, l2, e]
theorem zip_fst {α β : Type} {xs : List α} {ys : List β} (h : xs.length = ys.length) : (xs.zip ys).map (·.1) = xs := List.map_fst_zip (Nat.le_of_eq h)
theorem zip_snd {α β : Type} {xs : List α} {ys : List β} (h : xs.length = ys.length) : (xs.zip ys).map (·.2) = ys := List.map_snd_zip (Nat.le_of_eq h.symm)
mutual
theorem TreOk.dn {K : PySem.W.Frag} {G G' : Rg} {H : Hp} (g : RgLe G G') : ∀ {v : V} {fp : List Addr} {T : Tre}, TreOk K G H v fp T → (∀ a ∈ fp, ∀ o, H a = some o → G' a o) → ∀ d, trD T = some d → Dn K G' H v d
  | _, _, _, .d h, _, d, e => by
    rw [trD] at e
    cases e
    exact h.mono g (TupLe.rf _)
  | _, _, _, .lst (ts := ts) h a n, k, d, e => by
    rw [trD] at e
    cases q : trDs ts with
    | none => rw [q] at e; cases e
    | some ds =>
      rw [q] at e
      cases e
      exact .lst (.inl (k _ (by simp) _ h)) (TresOk.dn g a (fun x hx => k x (by simp [hx])) ds q)
  | _, _, _, .tup (ts := ts) h a, k, d, e => by
    rw [trD] at e
    cases q : trDs ts with
    | none => rw [q] at e; cases e
    | some ds =>
      rw [q] at e
      cases e
      exact .tup h (TresOk.dn g a k ds q)
  | _, _, _, .dic (ks := ks) (ts := ts) h c a n, k, d, e => by
    rw [trD] at e
    cases q : trDs ts with
    | none => rw [q] at e; cases e
    | some ds =>
      rw [q] at e
      cases e
      have hl : ks.length = ds.length := by rw [c.len, a.len1, trDs_len q]
      exact .dcu (k _ (by simp) _ h) (by rw [zip_fst hl]; exact c) (by rw [zip_snd hl]; exact TresOk.dn g a (fun x hx => k x (by simp [hx])) ds q)
  | _, _, _, .ins (fs := fs) (ts := ts) h1 h2 ne a n1 n2, k, d, e => by
    rw [trD] at e
    cases q : trDs ts with
    | none => rw [q] at e; cases e
    | some ds =>
      rw [q] at e
      cases e
      have hl : (fs.map (·.1)).length = ds.length := by
        have := a.len1
        rw [List.length_map] at this ⊢
        rw [this, trDs_len q]
      exact .ins (k _ (by simp) _ h1) (k _ (by simp) _ h2) (by rw [zip_fst hl]) (by rw [zip_snd hl]; exact TresOk.dn g a (fun x hx => k x (by simp [hx])) ds q)
theorem TresOk.dn {K : PySem.W.Frag} {G G' : Rg} {H : Hp} (g : RgLe G G') : ∀ {vs : List V} {fp : List Addr} {ts : List Tre}, TresOk K G H vs fp ts → (∀ a ∈ fp, ∀ o, H a = some o → G' a o) → ∀ ds, trDs ts = some ds → DnA K G' H vs ds
  | _, _, _, .nil, _, ds, e => by rw [trDs] at e; cases e; exact .nil
  | _, _, _, .cons (t := t) (ts := ts) h a n, k, ds, e => by
    rw [trDs] at e
    cases q : trD t with
    | none => rw [q] at e; cases e
    | some d =>
      rw [q] at e
      have e : (trDs ts).map (d :: ·) = some ds := e
      cases q2 : trDs ts with
      | none => rw [q2] at e; cases e
      | some es =>
        rw [q2] at e
        cases e
        exact .cons (TreOk.dn g h (fun x hx => k x (by simp [hx])) d q) (TresOk.dn g a (fun x hx => k x (by simp [hx])) es q2)
end
def mulT : Dk → List (PyData × List PyData) → Tre
  | .n, l => .dic .n (encK (l.map (·.1))) (.d .none :: l.flatMap fun z => [.lst (z.2.map .d), .d z.1])
  | t, l => .dic t (l.map (·.1)) (l.map fun z => .lst (z.2.map .d))
inductive Cl where
  | lst (ds : List PyData)
  | dic (t : Dk) (kvs : List (PyData × PyData))
  | feed (f : Fd)
  | tr (t : Tre)
  | mul (t : Dk) (l : List (PyData × List PyData))
def Cl.ok (K : PySem.W.Frag) (G : Rg) (H : Hp) (v : V) (fp : List Addr) : Cl → Prop
  | .lst ds => ∃ p vs, v = .ref p ∧ fp = [p] ∧ H p = some (.lst vs) ∧ DnA K G H vs ds
  | .dic t kvs => ∃ p o vs, v = .ref p ∧ fp = [p] ∧ H p = some o ∧ DcO t p o (kvs.map (·.1)) vs ∧ DnA K G H vs (kvs.map (·.2))
  | .feed f => ∃ d l, v = .ref d ∧ fp = [d, l] ∧ d ≠ l ∧ H d = some (.dK (fdK l f.2.1 f.2.2)) ∧ H l = some (.lst (f.1.map V.int))
  | .tr T => TreOk K G H v fp T ∧ ∃ p, v = .ref p ∧ (p ∈ fp ∨ ∃ xs, H p = some (.tup xs))
  | .mul t l => TreOk K G H v fp (mulT t l) ∧ ∃ p, v = .ref p ∧ (p ∈ fp ∨ ∃ xs, H p = some (.tup xs))
theorem Cl.mono {K : PySem.W.Frag} {G G' : Rg} {H H' : Hp} {v : V} {fp : List Addr} {c : Cl} (h : c.ok K G H v fp) (g : RgLe G G') (k : ∀ a ∈ fp, H' a = H a) (t : TupLe H H') : c.ok K G' H' v fp := by
  cases c with
  | lst ds =>
    obtain ⟨p, vs, rfl, rfl, h1, h2⟩ := h
    exact ⟨p, vs, rfl, rfl, by rw [k p (by simp)]; exact h1, h2.mono g t⟩
  | dic t' kvs =>
    obtain ⟨p, o, vs, rfl, rfl, h1, h2, h3⟩ := h
    exact ⟨p, o, vs, rfl, rfl, by rw [k p (by simp)]; exact h1, h2, h3.mono g t⟩
  | feed f =>
    obtain ⟨d, l, h1, h2, h3, h4, h5⟩ := h
    exact ⟨d, l, h1, h2, h3, by rw [k d (by simp [h2])]; exact h4, by rw [k l (by simp [h2])]; exact h5⟩
  | tr T =>
    obtain ⟨h1, p, h2, h3⟩ := h
    exact ⟨h1.mono g t k, p, h2, h3.imp id fun ⟨xs, z⟩ => ⟨xs, t _ _ z⟩⟩
  | mul T l =>
    obtain ⟨h1, p, h2, h3⟩ := h
    exact ⟨h1.mono g t k, p, h2, h3.imp id fun ⟨xs, z⟩ => ⟨xs, t _ _ z⟩⟩
theorem Cl.root {K : PySem.W.Frag} {G : Rg} {H : Hp} {p : Addr} {fp : List Addr} {c : Cl} (h : c.ok K G H (.ref p) fp) : p ∈ fp ∨ ∃ xs, H p = some (.tup xs) := by
  cases c with
  | lst ds =>
    obtain ⟨q, vs, h1, rfl, _⟩ := h
    cases h1; exact .inl (by simp)
  | dic t kvs =>
    obtain ⟨q, o, vs, h1, rfl, _⟩ := h
    cases h1; exact .inl (by simp)
  | feed f =>
    obtain ⟨q, l, h1, rfl, _⟩ := h
    cases h1; exact .inl (by simp)
  | tr T =>
    obtain ⟨_, q, h1, h2⟩ := h
    cases h1; exact h2
  | mul T l =>
    obtain ⟨_, q, h1, h2⟩ := h
    cases h1; exact h2
inductive Itm where
  | d (x : PyData)
  | r (k : Nat)
inductive ItsOk (K : PySem.W.Frag) (G : Rg) (H : Hp) (fp : List Addr) : List V → List Itm → Prop
  | nil : ItsOk K G H fp [] []
  | d {v : V} {x : PyData} {vs : List V} {nd : List Itm} : Dn K G H v x → ItsOk K G H fp vs nd → ItsOk K G H fp (v :: vs) (.d x :: nd)
  | r {k : Nat} {p : Addr} {vs : List V} {nd : List Itm} : fp[k]? = some p → ItsOk K G H fp vs nd → ItsOk K G H fp (.ref p :: vs) (.r k :: nd)
def PoolOk (K : PySem.W.Frag) (G : Rg) (H : Hp) (fp : List Addr) (ns : List (List Itm)) : Prop :=
  fp.length = ns.length ∧ fp.Nodup ∧ ∀ (k : Nat) (nd : List Itm), ns[k]? = some nd → ∃ p vs, fp[k]? = some p ∧ H p = some (.lst vs) ∧ ItsOk K G H fp vs nd
theorem ItsOk.mono {K : PySem.W.Frag} {G G' : Rg} {H H' : Hp} (g : RgLe G G') (t : TupLe H H') {fp : List Addr} : ∀ {vs : List V} {nd : List Itm}, ItsOk K G H fp vs nd → ItsOk K G' H' fp vs nd
  | _, _, .nil => .nil
  | _, _, .d h a => .d (h.mono g t) (ItsOk.mono g t a)
  | _, _, .r h a => .r h (ItsOk.mono g t a)
theorem PoolOk.mono {K : PySem.W.Frag} {G G' : Rg} {H H' : Hp} {fp : List Addr} {ns : List (List Itm)} (h : PoolOk K G H fp ns) (g : RgLe G G') (k : ∀ a ∈ fp, H' a = H a) (t : TupLe H H') : PoolOk K G' H' fp ns :=
  ⟨h.1, h.2.1, fun j nd e => by
    obtain ⟨p, vs, h1, h2, h3⟩ := h.2.2 j nd e
    exact ⟨p, vs, h1, by rw [k p (List.mem_of_getElem? h1)]; exact h2, h3.mono g t⟩⟩
inductive Sl where
  | un
  | dat (fr : Bool) (d : PyData)
  | own (c : Cl)
  | io (c : Cl)
  /-- a list of one's own that is walked: read, not changed -/
  | lent (c : Cl)
  /-- the list of number k of the pool at slot j -/
  | ref (j k : Nat)
  /-- a pool of lists that hold one another (at a slot that no name stands for) -/
  | pool (ns : List (List Itm))
def Sl.pl : Sl → Bool
  | .ref _ _ => true
  | .pool _ => true
  | _ => false
structure Exn where
  cls : Str
  flds : List (Str × PyData)
  st : List Sl
inductive R (α : Type) where
  | val (a : α)
  | exc (x : Exn)
  | bad
def R.bind {α β : Type} : R α → (α → R β) → R β
  | .val a, k => k a
  | .exc x, _ => .exc x
  | .bad, _ => .bad
def SlOk (K : PySem.W.Frag) (G : Gh) (H : Hp) (i : Nat) (ov : Option (Option V)) (fp : List Addr) : Sl → Prop
  | .un => fp = []
  | .dat fr d => fp = [] ∧ ∃ v, ov = some (some v) ∧ Dn K (rg G fr) H v d
  | .own c => ∃ v, ov = some (some v) ∧ (∀ p ∈ fp, G.H0 p = none) ∧ c.ok K (RgN G) H v fp
  | .io c => ∃ v, ov = some (some v) ∧ G.I i = some v ∧ c.ok K (RgN G) H v fp
  | .lent c => fp = [] ∧ ∃ p o, ov = some (some (.ref p)) ∧ G.I i = some (.ref p) ∧ H p = some o ∧ G.E p = some o ∧ (∀ xs, o ≠ .tup xs) ∧ c.ok K (RgN G) H (.ref p) [p]
  | .ref _ _ => fp = []
  | .pool ns => (∀ p ∈ fp, G.H0 p = none) ∧ PoolOk K (RgN G) H fp ns
theorem SlOk.mono {K : PySem.W.Frag} {G G' : Gh} {H H' : Hp} {i : Nat} {ov : Option (Option V)} {fp : List Addr} {s : Sl} (h : SlOk K G H i ov fp s) (e : Ext G H G' H') (k : ∀ a ∈ fp, H' a = H a) : SlOk K G' H' i ov fp s := by
  cases s with
  | un => exact h
  | dat fr d =>
    obtain ⟨h1, v, h2, h3⟩ := h
    exact ⟨h1, v, h2, e.dn h3⟩
  | own c =>
    obtain ⟨v, h2, h4, h3⟩ := h
    exact ⟨v, h2, fun p hp => by rw [e.h0]; exact h4 p hp, Cl.mono h3 e.n k e.t⟩
  | io c =>
    obtain ⟨v, h2, h4, h3⟩ := h
    exact ⟨v, h2, by rw [e.i]; exact h4, Cl.mono h3 e.n k e.t⟩
  | lent c =>
    obtain ⟨h1, p, o, h2, h3, h4, h5, h6, h7⟩ := h
    have h5' : G'.E p = some o := by rw [e.e]; exact h5
    have h4' : H' p = some o := (e.w.ex p o h5').1
    exact ⟨h1, p, o, h2, by rw [e.i]; exact h3, h4', h5', h6, Cl.mono h7 e.n (fun a ha => by
      have : a = p := by simpa using ha
      rw [this, h4, h4']) e.t⟩
  | ref j k => exact h
  | pool ns => exact ⟨fun p hp => by rw [e.h0]; exact h.1 p hp, h.2.mono e.n k e.t⟩
structure StaA (K : PySem.W.Frag) (G : Gh) (H : Hp) (σ : St) (Γ : List Sl) (A : Nat → List Addr) : Prop where
  w : Wf G H
  len : Γ.length = σ.length
  sl : ∀ i s, Γ[i]? = some s → SlOk K G H i σ[i]? (A i) s
  al : ∀ i p, p ∈ A i → H p ≠ none ∧ G.N p = none ∧ (p ∈ G.P ∨ G.H0 p = none)
  ae : ∀ i p, p ∈ A i → G.E p = none
  dj : ∀ i j p, p ∈ A i → p ∈ A j → i = j
  rf : ∀ (i j k : Nat) (ns : List (List Itm)), Γ[i]? = some (Sl.ref j k) → Γ[j]? = some (Sl.pool ns) → ∃ p, (A j)[k]? = some p ∧ σ[i]? = some (some (V.ref p))
theorem rf_set {Γ : List Sl} {σ σ' : St} {A A' : Nat → List Addr} {i : Nat} {s' : Sl} (rf : ∀ (i j k : Nat) (ns : List (List Itm)), Γ[i]? = some (Sl.ref j k) → Γ[j]? = some (Sl.pool ns) → ∃ p, (A j)[k]? = some p ∧ σ[i]? = some (some (V.ref p)))
    (hs : s'.pl = false) (hA : ∀ j, j ≠ i → A' j = A j) (hσ : ∀ j, j ≠ i → σ'[j]? = σ[j]?) : ∀ (a j k : Nat) (ns : List (List Itm)), (Γ.set i s')[a]? = some (Sl.ref j k) → (Γ.set i s')[j]? = some (Sl.pool ns) → ∃ p, (A' j)[k]? = some p ∧ σ'[a]? = some (some (V.ref p)) := fun a j k ns h1 h2 => by
  have key : ∀ (b : Nat) (x : Sl), x.pl = true → (Γ.set i s')[b]? = some x → b ≠ i ∧ Γ[b]? = some x := fun b x hx h => by
    by_cases e : b = i
    · subst e
      by_cases hl : b < Γ.length
      · rw [List.getElem?_set_self hl] at h
        cases h
        rw [hs] at hx; cases hx
      · rw [List.getElem?_eq_none (by simpa using hl)] at h; cases h
    · rw [List.getElem?_set_ne (Ne.symm e)] at h
      exact ⟨e, h⟩
  obtain ⟨n1, g1⟩ := key a _ rfl h1
  obtain ⟨n2, g2⟩ := key j _ rfl h2
  obtain ⟨p, q1, q2⟩ := rf a j k ns g1 g2
  exact ⟨p, by rw [hA j n2]; exact q1, by rw [hσ a n1]; exact q2⟩
def Sta (K : PySem.W.Frag) (G : Gh) (H : Hp) (σ : St) (Γ : List Sl) : Prop := ∃ A, StaA K G H σ Γ A
theorem Sta.w {K : PySem.W.Frag} {G : Gh} {H : Hp} {σ : St} {Γ : List Sl} (s : Sta K G H σ Γ) : Wf G H := s.elim fun _ a => a.w
structure Grow (G : Gh) (H : Hp) (N' H' : Hp) (fs : List Addr) : Prop where
  k : ∀ a o, H a = some o → a ∉ fs → H' a = some o
  al : ∀ a, a ∈ fs → H' a ≠ none
  t : TupLe H H'
  n : ∀ a o, G.N a = some o → N' a = some o
  n' : ∀ a o, N' a = some o → H' a = some o ∧ (G.N a = some o ∨ H a = none)
theorem Grow.wf {G : Gh} {H N' H' : Hp} {fs : List Addr} (g : Grow G H N' H' fs) (w : Wf G H) (hf : ∀ p ∈ fs, p ∈ G.P ∨ G.H0 p = none) (he : ∀ p ∈ fs, G.E p = none) : Wf ⟨G.H0, G.P, G.I, N', G.E⟩ H' := by
  have al : ∀ a, H a ≠ none → H' a ≠ none := fun a h => by
    by_cases hp : a ∈ fs
    · exact g.al a hp
    · cases q : H a with
      | none => exact absurd q h
      | some o => rw [g.k a o q hp]; simp
  refine ⟨fun a o h h2 => ?_, fun a o h => ?_, fun a h => al a (w.pal a h), w.p0, fun a o h => ?_, fun i p h => (w.iv i p h).imp id fun z => z.imp id fun ⟨xs, z⟩ => ⟨xs, g.t p xs z⟩⟩
  · refine g.k a o (w.keep a o h h2) fun hp => ?_
    rcases hf a hp with z | z
    · exact h2 z
    · rw [show G.H0 a = some o from h] at z; cases z
  · obtain ⟨h1, h2⟩ := g.n' a o h
    exact ⟨h1, trivial⟩
  · obtain ⟨h1, h2, h3⟩ := w.ex a o h
    refine ⟨g.k a o h1 fun hp => ?_, ?_, h3⟩
    · have h : G.E a = some o := h
      rw [he a hp] at h; cases h
    · show N' a = none
      cases q : N' a with
      | none => rfl
      | some u =>
        rcases (g.n' a u q).2 with z | z
        · rw [h2] at z; cases z
        · rw [h1] at z; cases z
theorem Wf.none0 {G : Gh} {H : Hp} (w : Wf G H) {a : Addr} (h2 : H a = none) : G.H0 a = none := by
  cases q : G.H0 a with
  | none => rfl
  | some u =>
    by_cases hp : a ∈ G.P
    · exact absurd h2 (w.pal a hp)
    · rw [w.keep a u q hp] at h2; cases h2
theorem Grow.ext {G : Gh} {H N' H' : Hp} {fs : List Addr} (g : Grow G H N' H' fs) (w : Wf G H) (hf : ∀ p ∈ fs, p ∈ G.P ∨ G.H0 p = none) (he : ∀ p ∈ fs, G.E p = none) : Ext G H ⟨G.H0, G.P, G.I, N', G.E⟩ H' :=
  ⟨rfl, rfl, rfl, rfl, g.n, fun a o h => (g.n' a o h).2.imp id fun z => w.none0 z, g.t, g.wf w hf he⟩
theorem Grow.at {G : Gh} {H N' H' : Hp} {fs : List Addr} (g : Grow G H N' H' fs) {a : Addr} (h : H a ≠ none) (hp : a ∉ fs) : H' a = H a := by
  cases q : H a with
  | none => exact absurd q h
  | some o => exact g.k a o q hp
theorem Sta.grow {K : PySem.W.Frag} {G : Gh} {H H' N' : Hp} {σ : St} {Γ : List Sl} (s : Sta K G H σ Γ) (g : Grow G H N' H' []) :
    Sta K ⟨G.H0, G.P, G.I, N', G.E⟩ H' σ Γ ∧ Ext G H ⟨G.H0, G.P, G.I, N', G.E⟩ H' := by
  obtain ⟨A, S⟩ := s
  have e := g.ext S.w (fun p hp => absurd hp (by simp)) (fun p hp => absurd hp (by simp))
  refine ⟨⟨A, e.w, S.len, fun i s h => (S.sl i s h).mono e fun a ha => g.at (S.al i a ha).1 (by simp), fun i p hp => ?_, S.ae, S.dj, S.rf⟩, e⟩
  obtain ⟨h1, h2, h3⟩ := S.al i p hp
  refine ⟨by rw [g.at h1 (by simp)]; exact h1, ?_, h3⟩
  show N' p = none
  cases q : N' p with
  | none => rfl
  | some o =>
    rcases (g.n' p o q).2 with z | z
    · rw [h2] at z; cases z
    · exact absurd z h1
theorem StaA.step {K : PySem.W.Frag} {G : Gh} {H H' N' : Hp} {σ σ' : St} {Γ : List Sl} {A : Nat → List Addr} {i : Nat} {s' : Sl} {fp' fs : List Addr} (S : StaA K G H σ Γ A) (g : Grow G H N' H' fs)
    (hfs : ∀ p ∈ fs, p ∈ A i) (hσ : ∀ j, j ≠ i → σ'[j]? = σ[j]?) (hl : σ'.length = σ.length) (sl' : i < Γ.length → SlOk K ⟨G.H0, G.P, G.I, N', G.E⟩ H' i σ'[i]? fp' s')
    (f : ∀ p ∈ fp', H' p ≠ none ∧ N' p = none ∧ (p ∈ A i ∨ H p = none)) (hpl : s'.pl = false := by first | rfl | (cases ‹Bool› <;> rfl)) :
    Sta K ⟨G.H0, G.P, G.I, N', G.E⟩ H' σ' (Γ.set i s') ∧ Ext G H ⟨G.H0, G.P, G.I, N', G.E⟩ H' := by
  have hf : ∀ p ∈ fs, p ∈ G.P ∨ G.H0 p = none := fun p hp => (S.al i p (hfs p hp)).2.2
  have he : ∀ p ∈ fs, G.E p = none := fun p hp => S.ae i p (hfs p hp)
  have e := g.ext S.w hf he
  have nf : ∀ j, j ≠ i → ∀ p, p ∈ A j → p ∉ fs := fun j hj p hp hq => hj (S.dj j i p hp (hfs p hq))
  refine ⟨⟨fun j => if j = i then fp' else A j, e.w, by rw [List.length_set, hl]; exact S.len, fun j s h => ?_, fun j p hp => ?_, fun j p hp => ?_, fun j k p hj hk => ?_, rf_set S.rf hpl (fun j hj => if_neg hj) hσ⟩, e⟩
  · by_cases hj : j = i
    · subst hj
      have hlt : j < Γ.length := by
        have := (List.getElem?_eq_some_iff.mp h).1
        simpa using this
      rw [List.getElem?_set_self hlt] at h
      cases h
      rw [if_pos rfl]
      exact sl' hlt
    · rw [List.getElem?_set_ne (Ne.symm hj)] at h
      rw [if_neg hj, hσ j hj]
      exact (S.sl j s h).mono e fun a ha => g.at (S.al j a ha).1 (nf j hj a ha)
  · by_cases hj : j = i
    · rw [if_pos hj] at hp
      obtain ⟨h1, h2, h3⟩ := f p hp
      refine ⟨h1, h2, ?_⟩
      rcases h3 with z | z
      · exact (S.al i p z).2.2
      · by_cases q : p ∈ G.P
        · exact .inl q
        · refine .inr ?_
          show G.H0 p = none
          cases r : G.H0 p with
          | none => rfl
          | some u => rw [S.w.keep p u r q] at z; cases z
    · rw [if_neg hj] at hp
      obtain ⟨h1, h2, h3⟩ := S.al j p hp
      refine ⟨by rw [g.at h1 (nf j hj p hp)]; exact h1, ?_, h3⟩
      show N' p = none
      cases q : N' p with
      | none => rfl
      | some o =>
        rcases (g.n' p o q).2 with z | z
        · rw [h2] at z; cases z
        · exact absurd z h1
  · show G.E p = none
    by_cases hj : j = i
    · rw [if_pos hj] at hp
      rcases (f p hp).2.2 with z | z
      · exact S.ae i p z
      · cases q : G.E p with
        | none => rfl
        | some u => rw [(S.w.ex p u q).1] at z; cases z
    · rw [if_neg hj] at hp
      exact S.ae j p hp
  · have key : ∀ j', j' ≠ i → p ∈ A j' → p ∈ fp' → False := fun j' hj' h1 h2 => by
      rcases (f p h2).2.2 with z | z
      · exact hj' (S.dj j' i p h1 z)
      · exact (S.al j' p h1).1 z
    by_cases hj' : j = i
    · by_cases hk' : k = i
      · rw [hj', hk']
      · rw [if_pos hj'] at hj
        rw [if_neg hk'] at hk
        exact (key k hk' hk hj).elim
    · by_cases hk' : k = i
      · rw [if_neg hj'] at hj
        rw [if_pos hk'] at hk
        exact (key j hj' hj hk).elim
      · rw [if_neg hj'] at hj
        rw [if_neg hk'] at hk
        exact S.dj j k p hj hk
theorem grow0 {G : Gh} {H : Hp} (w : Wf G H) : Grow G H G.N H [] := ⟨fun _ _ h _ => h, fun _ h => absurd h (by simp), TupLe.rf _, fun _ _ h => h, fun a o h => ⟨(w.new a o h).1, .inl h⟩⟩
theorem same_upd {H : Hp} {p : Addr} {o : HO} (h : H p = none) : Same H (upd H p o) := fun b x e => by
  rw [upd_ne (ne_of_none e h)]
  exact e
theorem tup_upd {H : Hp} {p : Addr} {o : HO} (h : H p = none) : TupLe H (upd H p o) := fun b x e => same_upd h _ _ e
theorem grow_new {G : Gh} {H : Hp} {p : Addr} {o : HO} (w : Wf G H) (h : H p = none) : Grow G H (upd G.N p o) (upd H p o) [] := by
  have hN : G.N p = none := by
    cases q : G.N p with
    | none => rfl
    | some u => rw [(w.new p u q).1] at h; cases h
  refine ⟨fun a u e _ => same_upd h a u e, fun _ h => absurd h (by simp), tup_upd h, fun a u e => same_upd hN a u e, fun a u e => ?_⟩
  by_cases ha : a = p
  · subst ha
    rw [upd_same] at e
    rw [upd_same]
    exact ⟨e, .inr h⟩
  · rw [upd_ne ha] at e
    rw [upd_ne ha]
    exact ⟨(w.new a u e).1, .inl e⟩
theorem grow_own {G : Gh} {H : Hp} {p : Addr} {o : HO} (w : Wf G H) (h : H p = none) : Grow G H G.N (upd H p o) [] :=
  ⟨fun a u e _ => same_upd h a u e, fun _ h => absurd h (by simp), tup_upd h, fun _ _ e => e, fun a u e => ⟨same_upd h a u (w.new a u e).1, .inl e⟩⟩
theorem grow_mut {G : Gh} {H : Hp} {p : Addr} {o u : HO} (w : Wf G H) (h : H p = some u) (hN : G.N p = none) (ht : ∀ xs, u ≠ .tup xs) (hz : ∀ x y, u ≠ .frz x y) : Grow G H G.N (upd H p o) [p] := by
  refine ⟨fun a x e hp => by rw [upd_ne (by simpa using hp)]; exact e, fun a ha => ?_, fun a xs e => ?_, fun _ _ e => e, fun a x e => ⟨?_, .inl e⟩⟩
  · have : a = p := by simpa using ha
    rw [this, upd_same]; simp
  · by_cases q : a = p
    · subst q; rw [h] at e; exact absurd (Option.some.inj e) (ht _)
    · rw [upd_ne q]; exact e
  · rw [upd_ne (fun q => by rw [q, hN] at e; cases e)]
    exact (w.new a x e).1
theorem set_at {α : Type} {l : List α} {i : Nat} {x : α} (h : i < l.length) : (l.set i x)[i]? = some x := List.getElem?_set_self h
theorem Wf.fresh {G : Gh} {H : Hp} {p : Addr} (w : Wf G H) (hp : H p = none) : G.N p = none ∧ G.H0 p = none ∧ p ∉ G.P := by
  have h3 : p ∉ G.P := fun z => w.pal p z hp
  refine ⟨?_, ?_, h3⟩
  · cases q : G.N p with
    | none => rfl
    | some u => rw [(w.new p u q).1] at hp; cases hp
  · cases q : G.H0 p with
    | none => rfl
    | some u => rw [w.keep p u q h3] at hp; cases hp
theorem Sta.put {K : PySem.W.Frag} {G : Gh} {H : Hp} {σ : St} {Γ : List Sl} {fr : Bool} {d : PyData} {v : V} (s : Sta K G H σ Γ) (i : Nat) (h : Dn K (rg G fr) H v d) :
    Sta K G H (σ.set i (some v)) (Γ.set i (.dat fr d)) := by
  obtain ⟨A, S⟩ := s
  refine (S.step (i := i) (fp' := []) (s' := .dat fr d) (σ' := σ.set i (some v)) (grow0 S.w) (fun p hp => absurd hp (by simp)) (fun j hj => List.getElem?_set_ne (Ne.symm hj)) (List.length_set ..) (fun hlt => ⟨rfl, v, ?_, h⟩) (fun p hp => absurd hp (by simp))).1
  exact set_at (by rw [← S.len]; exact hlt)
theorem Sta.forget {K : PySem.W.Frag} {G : Gh} {H : Hp} {σ : St} {Γ : List Sl} (s : Sta K G H σ Γ) (i : Nat) : Sta K G H σ (Γ.set i .un) := by
  obtain ⟨A, S⟩ := s
  exact (S.step (i := i) (fp' := []) (s' := .un) (σ' := σ) (grow0 S.w) (fun p hp => absurd hp (by simp)) (fun j hj => rfl) rfl (fun hlt => rfl) (fun p hp => absurd hp (by simp))).1
theorem Sta.freeze {K : PySem.W.Frag} {G : Gh} {H : Hp} {σ : St} {Γ : List Sl} {ds : List PyData} (s : Sta K G H σ Γ) (i : Nat) (hi : Γ[i]? = some (.own (.lst ds))) :
    ∃ G', Sta K G' H σ (Γ.set i (.dat true (.list ds))) ∧ Ext G H G' H := by
  obtain ⟨A, S⟩ := s
  obtain ⟨v, h1, h0, p, vs, rfl, hfp, hp, hd⟩ := S.sl i _ hi
  have hpA : p ∈ A i := by rw [hfp]; simp
  have hN : G.N p = none := (S.al i p hpA).2.1
  have h00 : G.H0 p = none := h0 p hpA
  have n1 : ∀ a o, G.N a = some o → upd G.N p (.lst vs) a = some o := fun a o e => same_upd hN a o e
  have hE : ∀ a o, G.E a = some o → upd G.N p (.lst vs) a = none := fun a o ha => by
    have z : a ≠ p := fun z => by
      have q := S.ae i p hpA
      rw [z, q] at ha
      cases ha
    rw [upd_ne z]
    exact (S.w.ex a o ha).2.1
  have e : Ext G H ⟨G.H0, G.P, G.I, upd G.N p (.lst vs), G.E⟩ H := by
    refine ⟨rfl, rfl, rfl, rfl, n1, fun a o ha => ?_, TupLe.rf _, S.w.keep, fun a o ha => ?_, S.w.pal, S.w.p0, fun a o ha => ⟨(S.w.ex a o ha).1, hE a o ha, (S.w.ex a o ha).2.2⟩, S.w.iv⟩
    · have ha : upd G.N p (.lst vs) a = some o := ha
      by_cases q : a = p
      · subst q; exact .inr h00
      · rw [upd_ne q] at ha; exact .inl ha
    have ha : upd G.N p (.lst vs) a = some o := ha
    by_cases q : a = p
    · subst q
      rw [upd_same] at ha
      cases ha
      exact ⟨hp, trivial⟩
    · rw [upd_ne q] at ha
      exact S.w.new a o ha
  refine ⟨_, ⟨fun j => if j = i then [] else A j, e.w, by rw [List.length_set]; exact S.len, fun j s h => ?_, fun j q hq => ?_, fun j q hq => ?_, fun j k q hj hk => ?_, rf_set S.rf rfl (fun j hj => if_neg hj) (fun _ _ => rfl)⟩, e⟩
  · by_cases hj : j = i
    · subst hj
      rw [List.getElem?_set_self (List.getElem?_eq_some_iff.mp hi).1] at h
      cases h
      rw [if_pos rfl]
      exact ⟨rfl, .ref p, h1, .lst (.inl upd_same) (hd.mono n1 (TupLe.rf _))⟩
    · rw [List.getElem?_set_ne (Ne.symm hj)] at h
      rw [if_neg hj]
      exact (S.sl j s h).mono e fun a ha => rfl
  · by_cases hj : j = i
    · rw [if_pos hj] at hq; cases hq
    · rw [if_neg hj] at hq
      obtain ⟨h2, h3, h4⟩ := S.al j q hq
      refine ⟨h2, ?_, h4⟩
      show upd G.N p (.lst vs) q = none
      rw [upd_ne (fun z => hj (S.dj j i q hq (by rw [z]; exact hpA)))]
      exact h3
  · by_cases hj : j = i
    · rw [if_pos hj] at hq; cases hq
    · rw [if_neg hj] at hq
      exact S.ae j q hq
  · by_cases hj' : j = i
    · rw [if_pos hj'] at hj; cases hj
    · by_cases hk' : k = i
      · rw [if_pos hk'] at hk; cases hk
      · rw [if_neg hj'] at hj
        rw [if_neg hk'] at hk
        exact S.dj j k q hj hk
theorem Sta.lockDic {K : PySem.W.Frag} {G : Gh} {H : Hp} {σ : St} {Γ : List Sl} {t : Dk} {kvs : List (PyData × PyData)} (s : Sta K G H σ Γ) (i : Nat) (hi : Γ[i]? = some (.own (.dic t kvs))) :
    ∃ p ob, H p = some ob ∧ Mut (some ob) ∧ ∀ od, ∃ G', Sta K G' (upd H p (.frz od ob)) σ (Γ.set i (.dat true (.dict kvs))) ∧ Ext G H G' (upd H p (.frz od ob)) := by
  obtain ⟨A, S⟩ := s
  obtain ⟨v, h1, h0, p, ob, vs, rfl, hfp, hp, hk, hd⟩ := S.sl i _ hi
  have hpA : p ∈ A i := by rw [hfp]; simp
  have hmu : Mut (some ob) := by
    cases t with
    | k => obtain ⟨ks, rfl, _⟩ := hk; trivial
    | t => obtain ⟨ks, rfl, _⟩ := hk; trivial
    | n => obtain ⟨_, _, rfl, _⟩ := hk; trivial
  have hnt : ∀ xs, ob ≠ .tup xs := fun xs z => by rw [z] at hmu; exact hmu
  refine ⟨p, ob, hp, hmu, fun od => ?_⟩
  have hN : G.N p = none := (S.al i p hpA).2.1
  have h00 : G.H0 p = none := h0 p hpA
  have n1 : ∀ a o, G.N a = some o → upd G.N p (.frz od ob) a = some o := fun a o e => same_upd hN a o e
  have hE : ∀ a o, G.E a = some o → upd G.N p (.frz od ob) a = none := fun a o ha => by
    have z : a ≠ p := fun z => by
      have q := S.ae i p hpA
      rw [z, q] at ha
      cases ha
    rw [upd_ne z]
    exact (S.w.ex a o ha).2.1
  have ht : TupLe H (upd H p (.frz od ob)) := fun a xs h => by
    rw [upd_ne (fun z => by rw [z, hp] at h; cases h; exact hnt _ rfl)]; exact h
  have hal : ∀ a, H a ≠ none → upd H p (.frz od ob) a ≠ none := fun a h => by
    by_cases q : a = p
    · subst q; rw [upd_same]; exact fun z => nomatch z
    · rw [upd_ne q]; exact h
  have e : Ext G H ⟨G.H0, G.P, G.I, upd G.N p (.frz od ob), G.E⟩ (upd H p (.frz od ob)) := by
    refine ⟨rfl, rfl, rfl, rfl, n1, fun a o ha => ?_, ht, fun a o ha hb => ?_, fun a o ha => ?_, fun a ha => hal a (S.w.pal a ha), S.w.p0, fun a o ha => ⟨by rw [upd_ne (fun z => by rw [z] at ha; rw [S.ae i p hpA] at ha; cases ha)]; exact (S.w.ex a o ha).1, hE a o ha, (S.w.ex a o ha).2.2⟩, fun i q h => (S.w.iv i q h).imp id fun z => z.imp id fun ⟨xs, z⟩ => ⟨xs, ht q xs z⟩⟩
    · have ha : upd G.N p (.frz od ob) a = some o := ha
      by_cases q : a = p
      · subst q; exact .inr h00
      · rw [upd_ne q] at ha; exact .inl ha
    · rw [upd_ne (fun z => by rw [z, h00] at ha; cases ha)]; exact S.w.keep a o ha hb
    have ha : upd G.N p (.frz od ob) a = some o := ha
    by_cases q : a = p
    · subst q
      rw [upd_same] at ha
      cases ha
      exact ⟨upd_same, trivial⟩
    · rw [upd_ne q] at ha
      rw [upd_ne q]
      exact S.w.new a o ha
  refine ⟨_, ⟨fun j => if j = i then [] else A j, e.w, by rw [List.length_set]; exact S.len, fun j s h => ?_, fun j q hq => ?_, fun j q hq => ?_, fun j k q hj hk => ?_, rf_set S.rf rfl (fun j hj => if_neg hj) (fun _ _ => rfl)⟩, e⟩
  · by_cases hj : j = i
    · subst hj
      rw [List.getElem?_set_self (List.getElem?_eq_some_iff.mp hi).1] at h
      cases h
      rw [if_pos rfl]
      exact ⟨rfl, .ref p, h1, .dct ⟨od, upd_same⟩ hk (hd.mono n1 ht)⟩
    · rw [List.getElem?_set_ne (Ne.symm hj)] at h
      rw [if_neg hj]
      exact (S.sl j s h).mono e fun a ha => upd_ne fun z => hj (S.dj j i p (by rw [← z]; exact ha) hpA)
  · by_cases hj : j = i
    · rw [if_pos hj] at hq; cases hq
    · rw [if_neg hj] at hq
      obtain ⟨h2, h3, h4⟩ := S.al j q hq
      refine ⟨hal q h2, ?_, h4⟩
      show upd G.N p (.frz od ob) q = none
      rw [upd_ne (fun z => hj (S.dj j i q hq (by rw [z]; exact hpA)))]
      exact h3
  · by_cases hj : j = i
    · rw [if_pos hj] at hq; cases hq
    · rw [if_neg hj] at hq
      exact S.ae j q hq
  · by_cases hj' : j = i
    · rw [if_pos hj'] at hj; cases hj
    · by_cases hk' : k = i
      · rw [if_pos hk'] at hk; cases hk
      · rw [if_neg hj'] at hj
        rw [if_neg hk'] at hk
        exact S.dj j k q hj hk
theorem Sta.change {K : PySem.W.Frag} {G : Gh} {H : Hp} {σ : St} {Γ : List Sl} {ds : List PyData} (s : Sta K G H σ Γ) (i : Nat) (hi : Γ[i]? = some (.own (.lst ds))) :
    ∃ p vs, σ[i]? = some (some (.ref p)) ∧ H p = some (.lst vs) ∧ DnA K (rg G true) H vs ds ∧
      ∀ vs' ds', DnA K (rg G true) H vs' ds' → Sta K G (upd H p (.lst vs')) σ (Γ.set i (.own (.lst ds'))) ∧ Ext G H G (upd H p (.lst vs')) := by
  obtain ⟨A, S⟩ := s
  obtain ⟨v, h1, h0, p, vs, rfl, hfp, hp, hd⟩ := S.sl i _ hi
  have hpA : p ∈ A i := by rw [hfp]; simp
  have hN : G.N p = none := (S.al i p hpA).2.1
  refine ⟨p, vs, h1, hp, hd, fun vs' ds' hd' => ?_⟩
  have g : Grow G H G.N (upd H p (.lst vs')) [p] := grow_mut S.w hp hN (fun xs z => by cases z) (fun x y z => by cases z)
  refine S.step (i := i) (fp' := [p]) (s' := .own (.lst ds')) (σ' := σ) g (fun q hq => ?_) (fun j hj => rfl) rfl (fun hlt => ⟨.ref p, h1, fun q hq => ?_, p, vs', rfl, rfl, upd_same, hd'.mono (fun _ _ z => z) g.t⟩) (fun q hq => ?_)
  · have : q = p := by simpa using hq
    rw [this]; exact hpA
  · have : q = p := by simpa using hq
    rw [this]; exact h0 p hpA
  · have : q = p := by simpa using hq
    rw [this]
    exact ⟨by rw [upd_same]; simp, hN, .inl hpA⟩
theorem Sta.changeIo {K : PySem.W.Frag} {G : Gh} {H : Hp} {σ : St} {Γ : List Sl} {ds : List PyData} (s : Sta K G H σ Γ) (i : Nat) (hi : Γ[i]? = some (.io (.lst ds))) :
    ∃ p vs, σ[i]? = some (some (.ref p)) ∧ H p = some (.lst vs) ∧ DnA K (rg G true) H vs ds ∧
      ∀ vs' ds', DnA K (rg G true) H vs' ds' → Sta K G (upd H p (.lst vs')) σ (Γ.set i (.io (.lst ds'))) ∧ Ext G H G (upd H p (.lst vs')) := by
  obtain ⟨A, S⟩ := s
  obtain ⟨v, h1, h0, p, vs, rfl, hfp, hp, hd⟩ := S.sl i _ hi
  have hpA : p ∈ A i := by rw [hfp]; simp
  have hN : G.N p = none := (S.al i p hpA).2.1
  refine ⟨p, vs, h1, hp, hd, fun vs' ds' hd' => ?_⟩
  have g : Grow G H G.N (upd H p (.lst vs')) [p] := grow_mut S.w hp hN (fun xs z => by cases z) (fun x y z => by cases z)
  refine S.step (i := i) (fp' := [p]) (s' := .io (.lst ds')) (σ' := σ) g (fun q hq => ?_) (fun j hj => rfl) rfl (fun hlt => ⟨.ref p, h1, h0, p, vs', rfl, rfl, upd_same, hd'.mono (fun _ _ z => z) g.t⟩) (fun q hq => ?_)
  · have : q = p := by simpa using hq
    rw [this]; exact hpA
  · have : q = p := by simpa using hq
    rw [this]
    exact ⟨by rw [upd_same]; simp, hN, .inl hpA⟩
theorem Sta.pin {K : PySem.W.Frag} {G : Gh} {H : Hp} {σ : St} {Γ : List Sl} {D : Addr} {o : HO} (S : Sta K G H σ Γ) (hD : H D = none) : Sta K ⟨G.H0, G.P, G.I, G.N, upd G.E D o⟩ (upd H D o) σ Γ ∧ TupLe H (upd H D o) := by
  obtain ⟨A, S⟩ := S
  obtain ⟨f1, f2, f3⟩ := S.w.fresh hD
  have t := tup_upd (o := o) hD
  have nA : ∀ i, D ∉ A i := fun i h => (S.al i D h).1 hD
  have w : Wf ⟨G.H0, G.P, G.I, G.N, upd G.E D o⟩ (upd H D o) := by
    refine ⟨fun a u h h2 => same_upd hD _ _ (S.w.keep a u h h2), fun a u h => ⟨same_upd hD _ _ (S.w.new a u h).1, (S.w.new a u h).2⟩, fun a h => ?_, S.w.p0, fun a u h => ?_, fun i q h => (S.w.iv i q h).imp id fun z => z.imp (fun z => ?_) fun ⟨xs, z⟩ => ⟨xs, t q xs z⟩⟩
    rotate_left 2
    · by_cases e : q = D
      · show upd G.E D o q ≠ none
        rw [e, upd_same]; simp
      · show upd G.E D o q ≠ none
        rw [upd_ne e]; exact z
    · rw [upd_ne (show a ≠ D from fun z => f3 (z ▸ h))]
      exact S.w.pal a h
    · by_cases q : a = D
      · subst q
        have h : upd G.E a o a = some u := h
        rw [upd_same] at h ⊢
        exact ⟨h, f1, f2, f3⟩
      · have h : upd G.E D o a = some u := h
        rw [upd_ne q] at h ⊢
        exact S.w.ex a u h
  refine ⟨⟨A, w, S.len, fun i s h => ?_, fun i p h => ⟨?_, (S.al i p h).2⟩, fun i p h => ?_, S.dj, S.rf⟩, t⟩
  · have q := S.sl i s h
    cases s with
    | un => exact q
    | dat fr d =>
      obtain ⟨q1, v, q2, q3⟩ := q
      exact ⟨q1, v, q2, q3.mono (fun a o z => by cases fr <;> exact z) t⟩
    | own c =>
      obtain ⟨v, q2, q4, q3⟩ := q
      exact ⟨v, q2, q4, Cl.mono q3 (fun a o z => z) (fun a ha => upd_ne (fun z => nA i (z ▸ ha))) t⟩
    | io c =>
      obtain ⟨v, q2, q4, q3⟩ := q
      exact ⟨v, q2, q4, Cl.mono q3 (fun a o z => z) (fun a ha => upd_ne (fun z => nA i (z ▸ ha))) t⟩
    | lent c =>
      obtain ⟨q1, p, u, q2, q3, q4, q5, q6, q7⟩ := q
      have ne : p ≠ D := fun z => by rw [z, hD] at q4; cases q4
      exact ⟨q1, p, u, q2, q3, by rw [upd_ne ne]; exact q4, by show upd G.E D o p = _; rw [upd_ne ne]; exact q5, q6, Cl.mono q7 (fun a o z => z) (fun a ha => by
        have : a = p := by simpa using ha
        rw [this, upd_ne ne]) t⟩
    | ref _ _ => exact q
    | pool ns => exact ⟨q.1, q.2.mono (fun a o z => z) (fun a ha => upd_ne (fun z => nA i (z ▸ ha))) t⟩
  · rw [upd_ne (show p ≠ D from fun z => nA i (z ▸ h))]
    exact (S.al i p h).1
  · show upd G.E D o p = none
    rw [upd_ne (show p ≠ D from fun z => nA i (z ▸ h))]
    exact S.ae i p h
def del (H : Hp) (D : Addr) : Hp := fun b => if b = D then none else H b
theorem del_ne {H : Hp} {D b : Addr} (h : b ≠ D) : PD.del H D b = H b := by unfold PD.del; rw [if_neg h]
theorem del_same {H : Hp} {D : Addr} : PD.del H D D = none := by unfold PD.del; rw [if_pos rfl]
theorem del_upd {H : Hp} {D : Addr} {o : HO} (h : H D = some o) : upd (PD.del H D) D o = H := by
  funext b
  by_cases q : b = D
  · subst q; rw [upd_same, h]
  · rw [upd_ne q, del_ne q]
theorem Sta.unpin {K : PySem.W.Frag} {G : Gh} {H : Hp} {σ : St} {Γ : List Sl} {D : Addr} {o : HO} {E0 : Hp} (S : Sta K G H σ Γ) (hE : G.E = upd E0 D o) (h0 : E0 D = none) (ho : ∀ xs, o ≠ .tup xs) (hz : ∀ x y, o ≠ .frz x y) (hI : ∀ i, G.I i ≠ some (.ref D)) : Sta K ⟨G.H0, G.P, G.I, G.N, E0⟩ (PD.del H D) σ Γ ∧ H D = some o ∧ TupLe H (PD.del H D) := by
  obtain ⟨A, S⟩ := S
  have eD : G.E D = some o := by rw [hE, upd_same]
  obtain ⟨g1, g2, g3, g4⟩ := S.w.ex D o eD
  have nA : ∀ i, D ∉ A i := fun i h => by
    have := S.ae i D h
    rw [eD] at this; cases this
  have t : TupLe H (PD.del H D) := fun a xs h => by
    rw [del_ne (fun z => by rw [z, g1] at h; exact ho xs (Option.some.inj h))]
    exact h
  have nD : ∀ a u, G.N a = some u → a ≠ D := fun a u h z => by rw [z, g2] at h; cases h
  have w : Wf ⟨G.H0, G.P, G.I, G.N, E0⟩ (PD.del H D) := by
    refine ⟨fun a u h h2 => ?_, fun a u h => ?_, fun a h => ?_, S.w.p0, fun a u h => ?_, fun i q h => (S.w.iv i q h).imp id fun z => z.imp (fun z => ?_) fun ⟨xs, z⟩ => ⟨xs, t q xs z⟩⟩
    rotate_right
    · have ne : q ≠ D := fun e => hI i (e ▸ h)
      show E0 q ≠ none
      rw [hE, upd_ne ne] at z
      exact z
    · rw [del_ne (fun z => by rw [z] at h; rw [show G.H0 D = some u from h] at g3; cases g3)]
      exact S.w.keep a u h h2
    · rw [del_ne (nD a u h)]
      exact S.w.new a u h
    · rw [del_ne (show a ≠ D from fun z => g4 (z ▸ h))]
      exact S.w.pal a h
    · have h : E0 a = some u := h
      have q : a ≠ D := fun z => by rw [z, h0] at h; cases h
      rw [del_ne q]
      exact S.w.ex a u (by rw [hE, upd_ne q]; exact h)
  refine ⟨⟨A, w, S.len, fun i s h => ?_, fun i p h => ⟨?_, (S.al i p h).2⟩, fun i p h => ?_, S.dj, S.rf⟩, g1, t⟩
  · have q := S.sl i s h
    cases s with
    | un => exact q
    | dat fr d =>
      obtain ⟨q1, v, q2, q3⟩ := q
      exact ⟨q1, v, q2, q3.mono (fun a o z => by cases fr <;> exact z) t⟩
    | own c =>
      obtain ⟨v, q2, q4, q3⟩ := q
      exact ⟨v, q2, q4, Cl.mono q3 (fun a o z => z) (fun a ha => del_ne (fun z => nA i (z ▸ ha))) t⟩
    | io c =>
      obtain ⟨v, q2, q4, q3⟩ := q
      exact ⟨v, q2, q4, Cl.mono q3 (fun a o z => z) (fun a ha => del_ne (fun z => nA i (z ▸ ha))) t⟩
    | lent c =>
      obtain ⟨q1, p, u, q2, q3, q4, q5, q6, q7⟩ := q
      have ne : p ≠ D := fun z => hI i (by rw [← z]; exact q3)
      exact ⟨q1, p, u, q2, q3, by rw [del_ne ne]; exact q4, by show E0 p = _; rw [hE, upd_ne ne] at q5; exact q5, q6, Cl.mono q7 (fun a o z => z) (fun a ha => by
        have : a = p := by simpa using ha
        rw [this, del_ne ne]) t⟩
    | ref _ _ => exact q
    | pool ns => exact ⟨q.1, q.2.mono (fun a o z => z) (fun a ha => del_ne (fun z => nA i (z ▸ ha))) t⟩
  · rw [del_ne (show p ≠ D from fun z => nA i (z ▸ h))]
    exact (S.al i p h).1
  · show E0 p = none
    have := S.ae i p h
    rw [hE, upd_ne (show p ≠ D from fun z => nA i (z ▸ h))] at this
    exact this
theorem Sta.blank {K : PySem.W.Frag} {G : Gh} {H : Hp} {σ : St} {Γ : List Sl} (s : Sta K G H σ Γ) (i : Nat) (o : Option V) : Sta K G H (σ.set i o) (Γ.set i .un) := by
  obtain ⟨A, S⟩ := s
  exact (S.step (i := i) (fp' := []) (s' := .un) (σ' := σ.set i o) (grow0 S.w) (fun p hp => absurd hp (by simp)) (fun j hj => List.getElem?_set_ne (Ne.symm hj)) (List.length_set ..) (fun hlt => rfl) (fun p hp => absurd hp (by simp))).1
theorem Sta.swap {K : PySem.W.Frag} {G : Gh} {H : Hp} {σ σ' : St} {Γ : List Sl} (s : Sta K G H σ Γ) (hl : σ'.length = σ.length) (h : ∀ i : Nat, σ'[i]? = σ[i]? ∨ Γ[i]? = some Sl.un) : Sta K G H σ' Γ := by
  obtain ⟨A, S⟩ := s
  refine ⟨A, S.w, by rw [hl]; exact S.len, fun i sl e => ?_, S.al, S.ae, S.dj, fun i j k ns e1 e2 => ?_⟩
  rotate_left
  · obtain ⟨p, q1, q2⟩ := S.rf i j k ns e1 e2
    refine ⟨p, q1, ?_⟩
    rcases h i with q | q
    · rw [q]; exact q2
    · rw [q] at e1; cases e1
  rcases h i with q | q
  · rw [q]; exact S.sl i sl e
  · rw [q] at e
    cases e
    exact S.sl i .un q
end PD
set_option Elab.async false
set_option linter.all false
set_option maxRecDepth 100000
set_option maxHeartbeats 4000000
namespace PD
open PySem L2
inductive AV where
  | d (fr : Bool) (d : PyData)
  | s (i : Nat)
def AVok (K : PySem.W.Frag) (G : Gh) (H : Hp) (σ : St) (v : V) : AV → Prop
  | .d fr d => Dn K (rg G fr) H v d
  | .s i => σ[i]? = some (some v)
theorem AVok.ext {K : PySem.W.Frag} {G G' : Gh} {H H' : Hp} {σ : St} {v : V} {a : AV} (h : AVok K G H σ v a) (e : Ext G H G' H') : AVok K G' H' σ v a := by
  cases a with
  | d fr d => exact e.dn h
  | s i => exact h
def FldsOk (K : PySem.W.Frag) (G : Rg) (H : Hp) (fs : List (Str × V)) (flds : List (Str × PyData)) : Prop := fs.map (·.1) = flds.map (·.1) ∧ DnA K G H (fs.map (·.2)) (flds.map (·.2))
def XdOk (K : PySem.W.Frag) (G : Rg) (H : Hp) (d : Option Addr) (flds : List (Str × PyData)) : Prop :=
  (∃ a fs, d = some a ∧ G a (.xd fs) ∧ FldsOk K G H fs flds) ∨ (d = none ∧ flds = [])
def XW (X : Cx) (W : WX) (G : Gh) (H : Hp) (_ : St) (x : Exn) : Prop :=
  ∀ G' H' σ' C d, Ext G H G' H' → Sta X.K G' H' σ' x.st → X.mg x.cls = some (.ref C) → XdOk X.K (rg G' true) H' d x.flds → W (.ref C) d σ' H'
theorem XW.ext {X : Cx} {W : WX} {G G' : Gh} {H H' : Hp} {σ : St} {x : Exn} (h : XW X W G H σ x) (e : Ext G H G' H') : XW X W G' H' σ x := fun G2 H2 σ2 C d e2 => h G2 H2 σ2 C d (e.tr e2)
def Pst (X : Cx) (W : WX) (G : Gh) (H : Hp) (σ : St) {τ : Type} (m : R τ) (P : τ → Gh → Hp → Prop) : Prop :=
  match m with
  | .bad => False
  | .exc x => XW X W G H σ x
  | .val r => ∀ G' H', Ext G H G' H' → P r G' H'
theorem Pst.ext {X : Cx} {W : WX} {G G' : Gh} {H H' : Hp} {σ : St} {τ : Type} {m : R τ} {P : τ → Gh → Hp → Prop} (h : Pst X W G H σ m P) (e : Ext G H G' H') : Pst X W G' H' σ m P := by
  cases m with
  | bad => exact h
  | exc x => exact XW.ext (σ := σ) h e
  | val r => exact fun G2 H2 e2 => h G2 H2 (e.tr e2)
theorem Pst.imp {X : Cx} {W : WX} {G : Gh} {H : Hp} {σ : St} {τ : Type} {m : R τ} {P P' : τ → Gh → Hp → Prop} (h : Pst X W G H σ m P) (k : ∀ r G' H', Ext G H G' H' → P r G' H' → P' r G' H') : Pst X W G H σ m P' := by
  cases m with
  | bad => exact h
  | exc x => exact h
  | val r => exact fun G2 H2 e2 => k r G2 H2 e2 (h G2 H2 e2)
theorem Pst.impG {X : Cx} {W : WX} {G : Gh} {H : Hp} {σ : St} {τ : Type} {m : R τ} {P P' : τ → Gh → Hp → Prop} (h : Pst X W G H σ m P) (k : ∀ r G' H', Ext G H G' H' → (∀ G2 H2, Ext G' H' G2 H2 → P r G2 H2) → P' r G' H') : Pst X W G H σ m P' := by
  cases m with
  | bad => exact h
  | exc x => exact h
  | val r => exact fun G2 H2 e2 => k r G2 H2 e2 fun G3 H3 e3 => h G3 H3 (e2.tr e3)
theorem Pst.bind {X : Cx} {W : WX} {G : Gh} {H : Hp} {σ : St} {τ ρ : Type} {m : R τ} {k : τ → R ρ} {P : ρ → Gh → Hp → Prop} (h : Pst X W G H σ (m.bind k) P) : Pst X W G H σ m (fun r G' H' => Pst X W G' H' σ (k r) P) := by
  cases m with
  | bad => exact h
  | exc x => exact h
  | val r => exact fun G2 H2 e2 => Pst.ext h e2
section
variable (X : Cx) (W : WX) (Γ : List Sl)
def rdE {τ : Type} (m : R τ) (av : τ → AV) (Γ' : τ → List Sl) : TE := fun σ H Q => ∃ G, Sta X.K G H σ Γ ∧ Pst X W G H σ m fun r G' H' => ∀ v, Sta X.K G' H' σ (Γ' r) → AVok X.K G' H' σ v (av r) → Q v H'
def rdT {τ : Type} (m : R τ) (b : τ → Bool) (Γ' : τ → List Sl) : TT := fun σ H Q => ∃ G, Sta X.K G H σ Γ ∧ Pst X W G H σ m fun r G' H' => Sta X.K G' H' σ (Γ' r) → Q (b r) H'
def rdF {τ : Type} (m : R τ) (ds : τ → List PyData) (Γ' : τ → List Sl) : TE := fun σ H Q => ∃ G, Sta X.K G H σ Γ ∧ Pst X W G H σ m fun r G' H' => ∀ p vs, Sta X.K G' H' σ (Γ' r) → H' p = none → DnA X.K (rg G' true) H' vs (ds r) → Q (.ref p) (upd H' p (.lst vs))
inductive AVs (K : PySem.W.Frag) (G : Gh) (H : Hp) (σ : St) : List V → List AV → Prop
  | nil : AVs K G H σ [] []
  | cons {v : V} {vs : List V} {a : AV} {as : List AV} : AVok K G H σ v a → AVs K G H σ vs as → AVs K G H σ (v :: vs) (a :: as)
def rdA {τ : Type} (m : R τ) (as : τ → List AV) (Γ' : τ → List Sl) : TA := fun σ H Q => ∃ G, Sta X.K G H σ Γ ∧ Pst X W G H σ m fun r G' H' => ∀ vs, Sta X.K G' H' σ (Γ' r) → AVs X.K G' H' σ vs (as r) → Q vs H'
def Ev (e : Expr) {τ : Type} (m : R τ) (av : τ → AV) (Γ' : τ → List Sl) : Prop := PE X e (rdE X W Γ m av Γ')
def EvT (e : Expr) {τ : Type} (m : R τ) (b : τ → Bool) (Γ' : τ → List Sl) : Prop := PT X e (rdT X W Γ m b Γ')
def EvF (e : Expr) {τ : Type} (m : R τ) (ds : τ → List PyData) (Γ' : τ → List Sl) : Prop := PE X e (rdF X W Γ m ds Γ')
def EvA (es : List Expr) {τ : Type} (m : R τ) (as : τ → List AV) (Γ' : τ → List Sl) : Prop := PA X es (rdA X W Γ m as Γ')
abbrev EvP (e : Expr) (a : AV) : Prop := Ev X W Γ e (R.val ()) (fun _ => a) (fun _ => Γ)
end
theorem AVs.ext {K : PySem.W.Frag} {G G' : Gh} {H H' : Hp} {σ : St} (e : Ext G H G' H') : ∀ {vs : List V} {as : List AV}, AVs K G H σ vs as → AVs K G' H' σ vs as
  | _, _, .nil => .nil
  | _, _, .cons h a => .cons (h.ext e) (AVs.ext e a)
theorem pe_imp {X : Cx} {e : Expr} {t t' : TE} (h : PE X e t) (k : ∀ σ H Q, t' σ H Q → t σ H Q) : PE X e t' := ⟨fun pins s σ H Q I z => h.run pins s σ H Q I (k σ H Q z)⟩
theorem pt_imp {X : Cx} {e : Expr} {t t' : TT} (h : PT X e t) (k : ∀ σ H Q, t' σ H Q → t σ H Q) : PT X e t' := ⟨fun pins s σ H Q I z => h.run pins s σ H Q I (k σ H Q z)⟩
theorem pw_imp {X : Cx} {e : Expr} {t t' : TT} (h : PW X e t) (k : ∀ σ H Q, t' σ H Q → t σ H Q) : PW X e t' := ⟨fun w pins s σ H Q I z => h.run w pins s σ H Q I (k σ H Q z)⟩
theorem pa_imp {X : Cx} {es : List Expr} {t t' : TA} (h : PA X es t) (k : ∀ σ H Q, t' σ H Q → t σ H Q) : PA X es t' := ⟨fun pos pins s σ H Q I z => h.run pos pins s σ H Q I (k σ H Q z)⟩
theorem pe_any {X : Cx} {e : Expr} {α : Type} {t : α → TE} (h : ∀ x, PE X e (t x)) : PE X e (fun σ H Q => ∃ x, t x σ H Q) := ⟨fun pins s σ H Q I ⟨x, z⟩ => (h x).run pins s σ H Q I z⟩
theorem pt_any {X : Cx} {e : Expr} {α : Type} {t : α → TT} (h : ∀ x, PT X e (t x)) : PT X e (fun σ H Q => ∃ x, t x σ H Q) := ⟨fun pins s σ H Q I ⟨x, z⟩ => (h x).run pins s σ H Q I z⟩
theorem pw_any {X : Cx} {e : Expr} {α : Type} {t : α → TT} (h : ∀ x, PW X e (t x)) : PW X e (fun σ H Q => ∃ x, t x σ H Q) := ⟨fun w pins s σ H Q I ⟨x, z⟩ => (h x).run w pins s σ H Q I z⟩
theorem pa_any {X : Cx} {es : List Expr} {α : Type} {t : α → TA} (h : ∀ x, PA X es (t x)) : PA X es (fun σ H Q => ∃ x, t x σ H Q) := ⟨fun pos pins s σ H Q I ⟨x, z⟩ => (h x).run pos pins s σ H Q I z⟩
def visB (sc : Scope) (x : Str) : Bool := match sc.names.lookup x with
  | some .local => true
  | some .cell => true
  | some .free => true
  | _ => false
def glB (sc : Scope) (x : Str) : Bool := match sc.names.lookup x with
  | some .globalImplicit => true
  | _ => false
def locB (sc : Scope) (x : Str) : Bool := match sc.names.lookup x with
  | some .local => true
  | some .cell => true
  | _ => false
theorem loc_of {sc : Scope} {x : Str} (h : locB sc x = true) : Loc sc x := by
  unfold locB at h
  split at h
  · exact .inl ‹_›
  · exact .inr ‹_›
  · cases h
theorem vis_of {sc : Scope} {x : Str} (h : visB sc x = true) : Vis sc x := by
  unfold visB at h
  split at h
  · exact .inl ‹_›
  · exact .inr (.inl ‹_›)
  · exact .inr (.inr ‹_›)
  · cases h
theorem gl_of {sc : Scope} {x : Str} (h : glB sc x = true) : sc.names.lookup x = some .globalImplicit := by
  unfold glB at h
  split at h
  · assumption
  · cases h
def Sto (X : Cx) (sc : Scope) (x : Str) : Prop := Loc sc x ∧ (X.fn x = true ∨ sc.names.lookup x = some .local)
def lclB (sc : Scope) (x : Str) : Bool := match sc.names.lookup x with
  | some .local => true
  | _ => false
theorem sto_l {X : Cx} {sc : Scope} {x : Str} (h : lclB sc x = true) : Sto X sc x := by
  unfold lclB at h
  split at h
  · exact ⟨.inl ‹_›, .inr ‹_›⟩
  · cases h
theorem sto_c {X : Cx} {sc : Scope} {x : Str} (D : ∀ x, X.fn x = true) (h : locB sc x = true) : Sto X sc x := ⟨loc_of h, .inl (D x)⟩
structure Cf0 (X : Cx) (W : WX) (sc : Scope) (N : List Str) : Prop where
  hsc : X.env.scope = sc
  hN : X.N = N
  nd : N.Nodup
  tk : Takes X W
  hu : X.A.units + 64 < cLine
  pass : PassesOwn (model X.prog X.w) X.A X.env X.xe
  hu2 : X.A.units + 150 < cLine
structure Cf (X : Cx) (W : WX) (sc : Scope) (N : List Str) : Prop extends Cf0 X W sc N where
  calm : X.calm = true
section
variable {X : Cx} {W : WX} {sc : Scope} {N : List Str} {Γ : List Sl}
theorem Cf0.gl (C : Cf0 X W sc N) {x : Str} (h : glB sc x = true) : Gl X x := by
  show X.env.scope.names.lookup x = _
  rw [C.hsc]
  exact gl_of h
theorem evp_of {e : Expr} {t : TE} {a : AV} (h : PE X e t) (k : ∀ σ H Q G, Sta X.K G H σ Γ → (∀ G' H' v, Ext G H G' H' → Sta X.K G' H' σ Γ → AVok X.K G' H' σ v a → Q v H') → t σ H Q) : EvP X W Γ e a :=
  pe_imp h fun σ H Q ⟨G, S, p⟩ => k σ H Q G S fun G' H' v e' S' a' => p G' H' e' v S' a'
theorem evp_var (C : Cf0 X W sc N) {i : Nat} {x : Str} {pos : Pos} {fr : Bool} {d : PyData} (hg : Γ[i]? = some (.dat fr d)) (hN : N[i]? = some x) (hv : visB sc x = true)
    (hd : (x == ("__debug__" : Str)) = false := by decide +kernel) (hcd : (x == ("__classdict__" : Str)) = false := by decide +kernel) : EvP X W Γ (.Name x pos) (.d fr d) := by
  refine evp_of (pe_var (i := i) (by rw [C.hN]; exact hN) (by rw [C.hsc]; exact vis_of hv) hd hcd) fun σ H Q G S k => ?_
  obtain ⟨A, T⟩ := id S
  obtain ⟨_, v, h1, h2⟩ := T.sl i _ hg
  exact ⟨v, h1, k G H v (Ext.rf S.w) S h2⟩
theorem evp_slot (C : Cf0 X W sc N) {i : Nat} {x : Str} {pos : Pos} {c : Cl} (hg : Γ[i]? = some (.own c) ∨ Γ[i]? = some (.io c) ∨ Γ[i]? = some (.lent c)) (hN : N[i]? = some x) (hv : visB sc x = true)
    (hd : (x == ("__debug__" : Str)) = false := by decide +kernel) (hcd : (x == ("__classdict__" : Str)) = false := by decide +kernel) : EvP X W Γ (.Name x pos) (.s i) := by
  refine evp_of (pe_var (i := i) (by rw [C.hN]; exact hN) (by rw [C.hsc]; exact vis_of hv) hd hcd) fun σ H Q G S k => ?_
  obtain ⟨A, T⟩ := id S
  have : ∃ v, σ[i]? = some (some v) := by
    rcases hg with hg | hg | hg
    · obtain ⟨v, h1, _⟩ := T.sl i _ hg
      exact ⟨v, h1⟩
    · obtain ⟨v, h1, _⟩ := T.sl i _ hg
      exact ⟨v, h1⟩
    · obtain ⟨_, p, o, h1, _⟩ := T.sl i _ hg
      exact ⟨_, h1⟩
  obtain ⟨v, h1⟩ := this
  exact ⟨v, h1, k G H v (Ext.rf S.w) S h1⟩
theorem evp_const {e : Expr} {v : V} {d : PyData} (h : PE X e (tC v)) (hd : ∀ K G H, Dn K G H v d) : EvP X W Γ e (.d true d) :=
  evp_of h fun σ H Q G S k => k G H v (Ext.rf S.w) S (hd _ _ _)
theorem evp_int {i : Int} {j : Nat} {pos : Pos} : EvP X W Γ (.Constant (.int i) j pos) (.d true (.int i)) := evp_const pe_int fun _ _ _ => .int i
theorem evp_bool {b : Bool} {j : Nat} {pos : Pos} : EvP X W Γ (.Constant (.bool b) j pos) (.d true (.bool b)) := evp_const pe_bl fun _ _ _ => .bl b
theorem evp_none {j : Nat} {pos : Pos} : EvP X W Γ (.Constant .none j pos) (.d true .none) := evp_const pe_non fun _ _ _ => .non
theorem evp_str {x : Str} {j : Nat} {pos : Pos} : EvP X W Γ (.Constant (.str x) j pos) (.d true (.str x)) := evp_const pe_str fun _ _ _ => .str x
theorem Ev.free {e : Expr} {τ : Type} {m : R τ} {fr fr' : Bool} {enc : τ → PyData} {Γ' : τ → List Sl} (h : Ev X W Γ e m (fun r => .d fr (enc r)) Γ') (hf : ∀ r, flat (enc r) = true) : Ev X W Γ e m (fun r => .d fr' (enc r)) Γ' :=
  pe_imp h fun σ H Q ⟨G, S, p⟩ => ⟨G, S, p.imp fun r G' H' _ k v S' a => k v S' (Dn.free a (hf r))⟩
theorem EvP.free {e : Expr} {fr fr' : Bool} {d : PyData} (h : EvP X W Γ e (.d fr d)) (hf : flat d = true) : EvP X W Γ e (.d fr' d) := Ev.free h fun _ => hf
theorem EvP.any {e : Expr} {fr : Bool} {d : PyData} (h : EvP X W Γ e (.d fr d)) : EvP X W Γ e (.d false d) :=
  pe_imp h fun σ H Q ⟨G, S, p⟩ => ⟨G, S, p.imp fun r G' H' _ k v S' a => k v S' (Dn.mono (rg_ff G' fr) (TupLe.rf _) a)⟩
theorem EvF.ev {e : Expr} {τ : Type} {m : R τ} {ds : τ → List PyData} {Γ' : τ → List Sl} (h : EvF X W Γ e m ds Γ') : Ev X W Γ e m (fun r => .d true (.list (ds r))) Γ' :=
  pe_imp h fun σ H Q ⟨G, S, p⟩ => ⟨G, S, p.impG fun r G' H' _ k p vs S' hp hd => by
    obtain ⟨S2, e2⟩ := S'.grow (grow_new (o := .lst vs) S'.w hp)
    exact k _ _ e2 _ S2 (.lst (.inl upd_same) (hd.mono e2.n e2.t))⟩
theorem bin_rd {α β γ : Type} {ma : R α} {ava : α → AV} {Γa : α → List Sl} {mb : α → R β} {avb : α → β → AV} {Γb : α → β → List Sl} {k : α → β → R γ} {avk : γ → AV} {Γk : γ → List Sl} {r : R2}
    (hk : ∀ x y G H σ u v Q, Sta X.K G H σ (Γb x y) → AVok X.K G H σ u (ava x) → AVok X.K G H σ v (avb x y) → Pst X W G H σ (k x y) (fun z G' H' => ∀ w, Sta X.K G' H' σ (Γk z) → AVok X.K G' H' σ w (avk z) → Q w H') → r u v H Q)
    {σ : St} {H : Hp} {Q : VK} (h : rdE X W Γ (ma.bind fun x => (mb x).bind fun y => k x y) avk Γk σ H Q) :
    tOp r (rdE X W Γ ma ava Γa) (fun σ H Q => ∃ x, rdE X W (Γa x) (mb x) (avb x) (Γb x) σ H Q) σ H Q := by
  obtain ⟨G, S, p⟩ := h
  refine ⟨G, S, (Pst.bind p).imp fun x G1 H1 e1 p1 u S1 a1 => ⟨x, G1, S1, (Pst.bind p1).imp fun y G2 H2 e2 p2 v S2 a2 => ?_⟩⟩
  exact hk x y G2 H2 σ u v Q S2 (a1.ext e2) a2 p2
variable {a b : Expr} {pos : Pos} {α β γ : Type} {ma : R α} {mb : α → R β} {Γa : α → List Sl} {Γb : α → β → List Sl} {Γk : γ → List Sl}
end
end PD
set_option Elab.async false
set_option linter.all false
set_option maxRecDepth 100000
set_option maxHeartbeats 4000000
set_option autoImplicit false
namespace PD
open PySem L2
theorem itT {P Q : Prop} (h : P) : if true = true then P else Q := by rw [if_pos rfl]; exact h
theorem itF {P Q : Prop} (h : Q) : if false = true then P else Q := by rw [if_neg (by simp)]; exact h
theorem R.bind_assoc {α β γ : Type} (m : R α) (f : α → R β) (g : β → R γ) : (m.bind f).bind g = m.bind fun a => (f a).bind g := by cases m <;> rfl
theorem R.bind_val {α : Type} (m : R α) : (m.bind fun a => .val a) = m := by cases m <;> rfl
def R.ofO {α : Type} : Option α → R α
  | some a => .val a
  | none => .bad
def R.req (b : Bool) : R Unit := if b then .val () else .bad
def cMul (i j : Int) : Bool := decide (i.natAbs.log2 + j.natAbs.log2 < 1000000)
def cDiv (_ j : Int) : Bool := decide (0 < j) && decide (j.natAbs.log2 < 9000)
def cMod (_ j : Int) : Bool := decide (0 < j)
def cShl (i j : Int) : Bool := decide (0 ≤ j) && decide ((Builtin.Int.intBits i : Int) + j ≤ 2 ^ 27)
def cShr (_ j : Int) : Bool := decide (0 ≤ j)
def cPow (i j : Int) : Bool := decide (0 ≤ j ∧ j ≤ 1000000 ∧ i.natAbs < 2 ^ 64)
theorem cMul_ok (i j : Int) (h : cMul i j = true) : CMulW i j := of_decide_eq_true (p := i.natAbs.log2 + j.natAbs.log2 < 1000000) h
theorem cDiv_ok (i j : Int) (h : cDiv i j = true) : CDivW i j := by
  unfold cDiv at h
  rw [Bool.and_eq_true] at h
  exact ⟨of_decide_eq_true h.1, of_decide_eq_true h.2⟩
theorem cMod_ok (i j : Int) (h : cMod i j = true) : 0 < j := of_decide_eq_true h
theorem cShl_ok (i j : Int) (h : cShl i j = true) : CShl i j := by
  unfold cShl at h
  rw [Bool.and_eq_true] at h
  exact ⟨of_decide_eq_true h.1, of_decide_eq_true h.2⟩
theorem cShr_ok (i j : Int) (h : cShr i j = true) : 0 ≤ j := of_decide_eq_true h
theorem cPow_ok (i j : Int) (h : cPow i j = true) : CPow i j := of_decide_eq_true (p := 0 ≤ j ∧ j ≤ 1000000 ∧ i.natAbs < 2 ^ 64) h
inductive Rdb (Γ : List Sl) : AV → PyData → Prop
  | d {fr : Bool} {z : PyData} : Rdb Γ (.d fr z) z
  | o {i : Nat} {es : List PyData} : Γ[i]? = some (.own (.lst es)) → Rdb Γ (.s i) (.list es)
  | i {i : Nat} {es : List PyData} : Γ[i]? = some (.io (.lst es)) → Rdb Γ (.s i) (.list es)
  | l {i : Nat} {es : List PyData} : Γ[i]? = some (.lent (.lst es)) → Rdb Γ (.s i) (.list es)
theorem atI_dn {K : PySem.W.Frag} {G : Rg} {H : Hp} {vs : List V} {ds : List PyData} {i : Int} {d : PyData} (h : DnA K G H vs ds) (e : atI ds i = some d) : ∃ v, atI vs i = some v ∧ Dn K G H v d := by
  unfold atI at e ⊢
  rw [h.length]
  cases q : ixN ds.length i with
  | none => rw [q] at e; cases e
  | some j =>
    rw [q] at e
    exact h.get' e
def szB {α : Type} (xs : List α) : Bool := decide (xs.length ≤ sizeLine)
def mkS (io : Bool) (c : Cl) : Sl := if io then .io c else .own c
theorem Sta.chg {K : PySem.W.Frag} {G : Gh} {H : Hp} {σ : St} {Γ : List Sl} {ds : List PyData} (s : Sta K G H σ Γ) (i : Nat) (io : Bool) (hi : Γ[i]? = some (mkS io (.lst ds))) :
    ∃ p vs, σ[i]? = some (some (.ref p)) ∧ H p = some (.lst vs) ∧ DnA K (rg G true) H vs ds ∧
      ∀ vs' ds', DnA K (rg G true) H vs' ds' → Sta K G (upd H p (.lst vs')) σ (Γ.set i (mkS io (.lst ds'))) ∧ Ext G H G (upd H p (.lst vs')) := by
  cases io with
  | true => exact s.changeIo i hi
  | false => exact s.change i hi
def ltS {α : Type} (xs : List α) : Bool := decide (xs.length < sizeLine)
section
variable {X : Cx} {W : WX} {sc : Scope} {N : List Str} {Γ : List Sl} {a b c : Expr} {pos : Pos}
theorem Ev.tst {e : Expr} {τ : Type} {m : R τ} {fr : Bool} {b : τ → Bool} {Γ1 : τ → List Sl} (h : Ev X W Γ e m (fun r => .d fr (.bool (b r))) Γ1) (he : ∀ whole, isTrue e X.env whole = (do let v ← whole; standAt e.pos; holding [v] (truthy v)) := by intro _; rfl) : EvT X W Γ e m b Γ1 :=
  pt_imp (pt_val h he) fun σ H Q ⟨G, S, p⟩ => ⟨G, S, Pst.imp p fun r G' H' _ k v S' a => ⟨b r, dn_bool a, k S'⟩⟩
theorem evt_notM {τ : Type} {m : R τ} {z : τ → Bool} {Γ1 : τ → List Sl} (ha : EvT X W Γ a m z Γ1) : EvT X W Γ (.UnaryOp .Not a pos) m (fun r => !z r) Γ1 :=
  pt_imp (pt_not ha) fun σ H Q ⟨G, S, p⟩ => ⟨G, S, p⟩
end
theorem Sta.lent {K : PySem.W.Frag} {G : Gh} {H : Hp} {σ : St} {Γ : List Sl} {i : Nat} {es : List PyData} {v : V} (S : Sta K G H σ Γ) (h : Γ[i]? = some (.own (.lst es)) ∨ Γ[i]? = some (.io (.lst es))) (hv : σ[i]? = some (some v)) : Dn K (RgH H) H v (.list es) := by
  rcases h with h | h
  · obtain ⟨p, vs, h1, h2, h3, _⟩ := S.change i h
    rw [hv] at h1
    cases h1
    exact .lst (.inl h2) (h3.mono (S.w.rgl true) (TupLe.rf _))
  · obtain ⟨p, vs, h1, h2, h3, _⟩ := S.changeIo i h
    rw [hv] at h1
    cases h1
    exact .lst (.inl h2) (h3.mono (S.w.rgl true) (TupLe.rf _))
theorem Sta.lentL {K : PySem.W.Frag} {G : Gh} {H : Hp} {σ : St} {Γ : List Sl} {i : Nat} {es : List PyData} (S : Sta K G H σ Γ) (h : Γ[i]? = some (.lent (.lst es))) : ∃ p vs, σ[i]? = some (some (.ref p)) ∧ H p = some (.lst vs) ∧ G.E p = some (.lst vs) ∧ DnA K (rg G true) H vs es := by
  obtain ⟨A, T⟩ := S
  obtain ⟨_, p, o, h1, h2, h3, h4, h5, q, vs, e, _, h6, h7⟩ := T.sl i _ h
  cases e
  rw [h3] at h6
  cases h6
  exact ⟨p, vs, h1, h3, h4, h7⟩
theorem Rdb.ok {K : PySem.W.Frag} {G : Gh} {H : Hp} {σ : St} {Γ : List Sl} {a : AV} {z : PyData} {v : V} (h : Rdb Γ a z) (S : Sta K G H σ Γ) (hv : AVok K G H σ v a) : Dn K (RgH H) H v z := by
  cases h with
  | d => exact S.w.dn hv
  | o hg => exact S.lent (.inl hg) hv
  | i hg => exact S.lent (.inr hg) hv
  | l hg =>
    obtain ⟨p, vs, h1, h2, _, h3⟩ := S.lentL hg
    have hv : σ[_]? = some (some v) := hv
    rw [h1] at hv
    cases hv
    exact .lst (.inl h2) (h3.mono (S.w.rgl true) (TupLe.rf _))
section
variable {X : Cx} {W : WX} {Γ : List Sl} {a b : Expr} {op : CmpOp} {pos : Pos}
theorem cmp_test {M : Model} {A : Around} {E : Value → Shared → Prop} {env : Env} {s : Shared} {l r : Expr} {op : CmpOp} {pos : Pos} {whole : Sem Value} {Q : Bool → Shared → Prop} (h : wpAny M A (eval (.Compare l [op] [r] pos) env) (fun c s' => wpAny M A (truthy c) Q E s') E s) (hm : behindInMarks op r = false) :
    wpAny M A (isTrue (.Compare l [op] [r] pos) env whole) Q E s := fun Γ p hΓ => by
  have q := h Γ p hΓ
  simp only [eval_Compare1, markedBehindIn_of_false hm, Sem.wp_bind', Sem.wp_holding, Sem.wp_cmd_standAt, Sem.wp_operate] at q
  simp only [isTrue_Compare1, markedBehindIn_of_false hm, Sem.wp_bind', Sem.wp_holding, Sem.wp_cmd_standAt, Sem.wp_operate]
  exact Sem.wp_mono M Γ _ (fun a p1 s1 h1 => Sem.wp_mono M Γ _ (fun b p2 s2 h2 => Sem.wp_mono M Γ _ (fun c p3 s3 h3 => h3 Γ p3 hΓ) (fun _ _ _ z => z) _ _ h2) (fun _ _ _ z => z) _ _ h1) (fun _ _ _ z => z) _ _ q
theorem pt_cmpV {X : Cx} {a b : Expr} {op : CmpOp} {pos : Pos} {t : TE} (h : PE X (.Compare a [op] [b] pos) t) (hm : behindInMarks op b = false) : PT X (.Compare a [op] [b] pos) (tB t) := by
  refine ⟨fun pins s σ H Q I hw => cmp_test (thn (h.run pins s σ H _ I hw) fun v s1 ⟨x, H1, I1, r1, q1⟩ => ?_) hm⟩
  obtain ⟨d, rfl, q⟩ := q1
  cases r1
  exact wpAny_truthy_bool ⟨H1, I1, q⟩
theorem Ev.tstC {τ : Type} {m : R τ} {fr : Bool} {z : τ → Bool} {Γ1 : τ → List Sl} (h : Ev X W Γ (.Compare a [op] [b] pos) m (fun r => .d fr (.bool (z r))) Γ1) (hm : behindInMarks op b = false := by first | exact nobehind _ (by decide) (by decide) | rfl) : EvT X W Γ (.Compare a [op] [b] pos) m z Γ1 :=
  pt_imp (pt_cmpV h hm) fun σ H Q ⟨G, S, p⟩ => ⟨G, S, Pst.imp p fun r G' H' _ k v S' a => ⟨z r, dn_bool a, k S'⟩⟩
end
theorem AVs.length {K : PySem.W.Frag} {G : Gh} {H : Hp} {σ : St} : ∀ {vs : List V} {as : List AV}, AVs K G H σ vs as → vs.length = as.length
  | _, _, .nil => rfl
  | _, _, .cons _ a => by simp [AVs.length a]
theorem Sta.newTup {K : PySem.W.Frag} {G : Gh} {H : Hp} {σ : St} {Γ : List Sl} {p : Addr} {vs : List V} {ds : List PyData} {fr : Bool} (S : Sta K G H σ Γ) (hp : H p = none) (hd : DnA K (rg G fr) H vs ds) :
    ∃ G', Sta K G' (upd H p (.tup vs)) σ Γ ∧ Ext G H G' (upd H p (.tup vs)) ∧ Dn K (rg G' fr) (upd H p (.tup vs)) (.ref p) (.tuple ds) := by
  obtain ⟨S', e⟩ := S.grow (grow_new (o := .tup vs) S.w hp)
  exact ⟨_, S', e, .tup upd_same (e.dna hd)⟩
theorem AVs.len {K : PySem.W.Frag} {G : Gh} {H : Hp} {σ : St} : ∀ {vs : List V} {as : List AV}, AVs K G H σ vs as → vs.length = as.length
  | _, _, .nil => rfl
  | _, _, .cons _ a => by simp [AVs.len a]
def max2 (i j : Int) : Int := if j > i then j else i
def min2 (i j : Int) : Int := if j < i then j else i
def b2n (b : Bool) : Int := if b then 1 else 0
section
variable {X : Cx} {W : WX} {Γ : List Sl} {a b c : Expr} {rest : List Expr} {pos : Pos} {α β γ : Type} {ma : R α} {ba : α → Bool} {Γa : α → List Sl} {mb : α → R β} {bb : α → β → Bool} {Γb : α → β → List Sl} {Γk : γ → List Sl} {bk : γ → Bool}
def EvWM (X : Cx) (W : WX) (Γ : List Sl) (e : Expr) {τ : Type} (m : R τ) (b : τ → Bool) (Γ' : τ → List Sl) : Prop := PW X e (rdT X W Γ m b Γ')
theorem EvWM.t {e : Expr} (h : EvWM X W Γ e ma ba Γa) : EvT X W Γ e ma ba Γa := PW.pt h
theorem evw_orM1 (h : EvT X W Γ a ma ba Γa) : EvWM X W Γ (.BoolOp .Or [a] pos) ma ba Γa := pw_or1 h
theorem evw_andM1 (h : EvT X W Γ a ma ba Γa) : EvWM X W Γ (.BoolOp .And [a] pos) ma ba Γa := pw_and1 h
theorem evw_orM (ha : EvT X W Γ a ma ba Γa) (hb : ∀ x, EvWM X W (Γa x) (.BoolOp .Or (b :: rest) pos) (mb x) (bb x) (Γb x)) (k1 : α → γ) (k2 : α → β → γ) (h1 : ∀ x, bk (k1 x) = true := by intros; rfl) (h2 : ∀ x, Γk (k1 x) = Γa x := by intros; rfl) (h3 : ∀ x y, bk (k2 x y) = bb x y := by intros; rfl) (h4 : ∀ x y, Γk (k2 x y) = Γb x y := by intros; rfl) :
    EvWM X W Γ (.BoolOp .Or (a :: b :: rest) pos) (ma.bind fun x => if ba x then .val (k1 x) else (mb x).bind fun y => .val (k2 x y)) bk Γk :=
  pw_imp (pw_or ha (pw_any hb)) fun σ H Q ⟨G, S, p⟩ => ⟨G, S, (Pst.bind p).imp fun x G1 H1 e1 p1 S1 => by
    cases hx : ba x with
    | true =>
      rw [if_pos hx] at p1
      have q := p1 G1 H1 (Ext.rf S1.w) (by rw [h2]; exact S1)
      rw [h1] at q
      exact itT q
    | false =>
      rw [if_neg (by rw [hx]; decide)] at p1
      exact itF ⟨x, G1, S1, (Pst.bind p1).imp fun y G2 H2 e2 p2 S2 => by
        have q := p2 G2 H2 (Ext.rf S2.w) (by rw [h4]; exact S2)
        rw [h3] at q
        exact q⟩⟩
theorem evw_andM (ha : EvT X W Γ a ma ba Γa) (hb : ∀ x, EvWM X W (Γa x) (.BoolOp .And (b :: rest) pos) (mb x) (bb x) (Γb x)) (k1 : α → γ) (k2 : α → β → γ) (h1 : ∀ x, bk (k1 x) = false := by intros; rfl) (h2 : ∀ x, Γk (k1 x) = Γa x := by intros; rfl) (h3 : ∀ x y, bk (k2 x y) = bb x y := by intros; rfl) (h4 : ∀ x y, Γk (k2 x y) = Γb x y := by intros; rfl) :
    EvWM X W Γ (.BoolOp .And (a :: b :: rest) pos) (ma.bind fun x => if ba x then (mb x).bind fun y => .val (k2 x y) else .val (k1 x)) bk Γk :=
  pw_imp (pw_and ha (pw_any hb)) fun σ H Q ⟨G, S, p⟩ => ⟨G, S, (Pst.bind p).imp fun x G1 H1 e1 p1 S1 => by
    cases hx : ba x with
    | false =>
      rw [if_neg (by rw [hx]; decide)] at p1
      have q := p1 G1 H1 (Ext.rf S1.w) (by rw [h2]; exact S1)
      rw [h1] at q
      exact itF q
    | true =>
      rw [if_pos hx] at p1
      exact itT ⟨x, G1, S1, (Pst.bind p1).imp fun y G2 H2 e2 p2 S2 => by
        have q := p2 G2 H2 (Ext.rf S2.w) (by rw [h4]; exact S2)
        rw [h3] at q
        exact q⟩⟩
variable {f1 f2 : Bool}
theorem evv_oneM {op : BoolOp} {av : α → AV} (ha : Ev X W Γ a ma av Γa) : Ev X W Γ (.BoolOp op [a] pos) ma av Γa := pe_one ha
end
section
variable {X : Cx} {W : WX} {sc : Scope} {N : List Str} {Γ : List Sl}
theorem eva_nil : EvA X W Γ [] (R.val ()) (fun _ => []) (fun _ => Γ) :=
  pa_imp pa_nil fun σ H Q ⟨G, S, p⟩ => p G H (Ext.rf S.w) [] S .nil
theorem eva_cons {e : Expr} {es : List Expr} {α β γ : Type} {ma : R α} {ava : α → AV} {Γa : α → List Sl} {mb : α → R β} {asb : α → β → List AV} {Γb : α → β → List Sl} (kk : α → β → γ) {as : γ → List AV} {Γk : γ → List Sl}
    (ha : Ev X W Γ e ma ava Γa) (hb : ∀ x, EvA X W (Γa x) es (mb x) (asb x) (Γb x)) (h1 : ∀ x y, as (kk x y) = ava x :: asb x y := by intros; rfl) (h2 : ∀ x y, Γk (kk x y) = Γb x y := by intros; rfl)
    (hst : starEach (e :: es) X.env = (false, eval e X.env) :: starEach es X.env := by rfl) :
    EvA X W Γ (e :: es) (ma.bind fun x => (mb x).bind fun y => .val (kk x y)) as Γk := by
  refine pa_imp (pa_cons ha (pa_any hb) hst) fun σ H Q ⟨G, S, p⟩ => ?_
  refine ⟨G, S, (Pst.bind p).imp fun x G1 H1 e1 p1 v S1 a1 => ⟨x, G1, S1, (Pst.bind p1).imp fun y G2 H2 e2 p2 vs S2 a2 => ?_⟩⟩
  refine p2 G2 H2 (Ext.rf S2.w) (v :: vs) (by rw [h2]; exact S2) ?_
  rw [h1]
  exact .cons (a1.ext e2) a2
end
def sortI (ns : List Int) : List Int := ns.mergeSort (fun a b => decide (a ≤ b))
theorem sortI_perm (ns : List Int) : (sortI ns).Perm ns := List.mergeSort_perm ..
theorem sortI_le (ns : List Int) : (sortI ns).Pairwise (· ≤ ·) := by
  have := List.pairwise_mergeSort (le := fun a b : Int => decide (a ≤ b)) (fun a b c h1 h2 => by simp at *; omega) (fun a b => by simp; omega) ns
  exact this.imp fun h => by simpa using h
theorem sortI_unique {ns ms : List Int} (hp : ms.Perm ns) (hs : ms.Pairwise (· ≤ ·)) : ms = sortI ns := PySem.W.ksm_same (hp.trans (sortI_perm ns).symm) hs (sortI_le ns)
end PD
set_option Elab.async false
set_option linter.all false
set_option maxRecDepth 100000
set_option maxHeartbeats 4000000
set_option autoImplicit false
namespace PD
open PySem L2
abbrev DF := List Sl → R (AV × List Sl)
abbrev DA := List Sl → R (List AV × List Sl)
abbrev DT := List Sl → R (Bool × List Sl)
abbrev DN := List Sl → R (List PyData × List Sl)
section
variable (X : Cx) (W : WX)
def CE (e : Expr) (f : DF) : Prop := ∀ Γ, Ev X W Γ e (f Γ) Prod.fst Prod.snd
def CT (e : Expr) (f : DT) : Prop := ∀ Γ, EvT X W Γ e (f Γ) Prod.fst Prod.snd
def CW (e : Expr) (f : DT) : Prop := ∀ Γ, EvWM X W Γ e (f Γ) Prod.fst Prod.snd
def CN (e : Expr) (f : DN) : Prop := ∀ Γ, EvF X W Γ e (f Γ) Prod.fst Prod.snd
def CA (es : List Expr) (f : DA) : Prop := ∀ Γ, EvA X W Γ es (f Γ) Prod.fst Prod.snd
def Pk (G : Gh) (H : Hp) (σ : St) (m : R (AV × List Sl)) (Q : VK) : Prop := Pst X W G H σ m fun y G' H' => ∀ w, Sta X.K G' H' σ y.2 → AVok X.K G' H' σ w y.1 → Q w H'
end
section
variable {X : Cx} {W : WX} {sc : Scope} {N : List Str} {a b c e : Expr} {pos : Pos} {f g : DF}
theorem Pk.v {G : Gh} {H : Hp} {σ : St} {y : AV} {Γ : List Sl} {Q : VK} (h : Pk X W G H σ (.val (y, Γ)) Q) (S : Sta X.K G H σ Γ) {w : V} (hw : AVok X.K G H σ w y) : Q w H := h G H (Ext.rf S.w) w S hw
theorem Pk.v' {G G' : Gh} {H H' : Hp} {σ : St} {y : AV} {Γ : List Sl} {Q : VK} (h : Pk X W G H σ (.val (y, Γ)) Q) (e : Ext G H G' H') (S : Sta X.K G' H' σ Γ) {w : V} (hw : AVok X.K G' H' σ w y) : Q w H' := h G' H' e w S hw
theorem ev_bad {τ : Type} {Γ : List Sl} {av : τ → AV} {Γ' : τ → List Sl} (h : PE X e (fun _ _ _ => False) := ⟨fun _ _ _ _ _ _ z => z.elim⟩) : Ev X W Γ e (R.bad : R τ) av Γ' := pe_imp h fun σ H Q ⟨G, S, p⟩ => p
theorem evt_bad {τ : Type} {Γ : List Sl} {av : τ → Bool} {Γ' : τ → List Sl} (h : PT X e (fun _ _ _ => False) := ⟨fun _ _ _ _ _ _ z => z.elim⟩) : EvT X W Γ e (R.bad : R τ) av Γ' := pt_imp h fun σ H Q ⟨G, S, p⟩ => p
def dVar (i : Nat) : DF := fun Γ => match Γ[i]? with
  | some (.dat fr d) => .val (.d fr d, Γ)
  | some (.own _) => .val (.s i, Γ)
  | some (.io _) => .val (.s i, Γ)
  | some (.lent _) => .val (.s i, Γ)
  | _ => .bad
theorem ce_var (C : Cf0 X W sc N) (i : Nat) {x : Str} (hN : N[i]? = some x) (hv : visB sc x = true)
    (hd : (x == ("__debug__" : Str)) = false := by decide +kernel) (hcd : (x == ("__classdict__" : Str)) = false := by decide +kernel) : CE X W (.Name x pos) (dVar i) := fun Γ => by
  unfold dVar
  split
  · exact evp_var C ‹_› hN hv hd hcd
  · exact evp_slot C (.inl ‹_›) hN hv hd hcd
  · exact evp_slot C (.inr (.inl ‹_›)) hN hv hd hcd
  · exact evp_slot C (.inr (.inr ‹_›)) hN hv hd hcd
  · exact ev_bad
def dC (d : PyData) : DF := fun Γ => .val (.d true d, Γ)
theorem ce_int {i : Int} {j : Nat} : CE X W (.Constant (.int i) j pos) (dC (.int i)) := fun Γ => evp_int (W := W)
theorem ce_bool {i : Bool} {j : Nat} : CE X W (.Constant (.bool i) j pos) (dC (.bool i)) := fun Γ => evp_bool (W := W)
theorem ce_none {j : Nat} : CE X W (.Constant .none j pos) (dC .none) := fun Γ => evp_none (W := W)
theorem ce_str {x : Str} {j : Nat} : CE X W (.Constant (.str x) j pos) (dC (.str x)) := fun Γ => evp_str (W := W)
theorem ce_op2 {op : Operator} {r : R2} (k : AV → AV → List Sl → R (AV × List Sl)) (ho : OpR X (binaryOp op) r) (ha : CE X W a f) (hb : CE X W b g)
    (hk : ∀ x y Γ2 G H σ u v Q, Sta X.K G H σ Γ2 → AVok X.K G H σ u x → AVok X.K G H σ v y → Pk X W G H σ (k x y Γ2) Q → r u v H Q) : CE X W (.BinOp a op b pos) (fun Γ => (f Γ).bind fun x => (g x.2).bind fun y => k x.1 y.1 y.2) := fun Γ =>
  pe_imp (pe_op ho (ha Γ) (pe_any fun x : AV × List Sl => hb x.2)) fun σ H Q h => bin_rd (X := X) (W := W) (ava := Prod.fst) (Γa := Prod.snd) (avb := fun _ (y : AV × List Sl) => y.1) (Γb := fun _ (y : AV × List Sl) => y.2) (avk := Prod.fst) (Γk := Prod.snd) (k := fun (x : AV × List Sl) (y : AV × List Sl) => k x.1 y.1 y.2) (fun x y G H σ u v Q S hu hv p => hk x.1 y.1 y.2 G H σ u v Q S hu hv p) h
def dI (k : Int → Int → R Int) (f g : DF) : DF := fun Γ => (f Γ).bind fun x => (g x.2).bind fun y => match x.1, y.1 with
  | .d _ (.int i), .d _ (.int j) => (k i j).bind fun n => .val (.d true (.int n), y.2)
  | _, _ => .bad
theorem ce_ii {op : Operator} {h : Int → Int → Int} {P : Int → Int → Prop} {k : Int → Int → R Int} (hk : ∀ i j, k i j = .bad ∨ (P i j ∧ k i j = .val (h i j))) (ho : OpR X (binaryOp op) (rI P fun i j => .int (h i j))) (ha : CE X W a f) (hb : CE X W b g) : CE X W (.BinOp a op b pos) (dI k f g) := by
  refine ce_op2 (fun x y Γ2 => match x, y with
    | .d _ (.int i), .d _ (.int j) => (k i j).bind fun n => .val (.d true (.int n), Γ2)
    | _, _ => .bad) ho ha hb fun x y Γ2 G H σ u v Q S hu hv p => ?_
  split at p
  · rename_i i _ j
    rcases hk i j with e | ⟨hP, e⟩
    · rw [e] at p; exact p.elim
    · rw [e] at p
      exact ⟨i, j, dn_int hu, dn_int hv, hP, Pk.v p S (.int _)⟩
  · exact p.elim
theorem opI_of {F : Value → Value → Sem Value} {h : Int → Int → V} (ho : OpR X F (rI0 h)) : OpR X F (rI (fun _ _ => True) h) := fun pins s σ H x y v u Q I rx ry ⟨i, j, e1, e2, _, q⟩ => ho pins s σ H x y v u Q I rx ry ⟨i, j, e1, e2, q⟩
theorem opR_or {F : Value → Value → Sem Value} {r1 r2 : R2} (h1 : OpR X F r1) (h2 : OpR X F r2) : OpR X F (fun u v H Q => r1 u v H Q ∨ r2 u v H Q) := fun pins s σ H x y v u Q I rx ry z => z.elim (h1 pins s σ H x y v u Q I rx ry) (h2 pins s σ H x y v u Q I rx ry)
def gq {α : Type} (c : Bool) (a : α) : R α := (R.req c).bind fun _ => .val a
theorem gq_cases {α : Type} (c : Bool) (a : α) : gq c a = .bad ∨ (c = true ∧ gq c a = .val a) := by
  cases c
  · exact .inl rfl
  · exact .inr ⟨rfl, rfl⟩
def cMulX (i j : Int) : Bool := decide (i.natAbs < 2 ^ 64) || decide (j.natAbs < 2 ^ 64) || cMul i j
theorem op_mulG : OpR X (binaryOp .Mult) (rI (fun i j => cMulX i j = true) fun i j => .int (i * j)) := fun pins s σ H x y v u Q I rx ry ⟨i, j, e1, e2, c, q⟩ => by
  have c : cMulX i j = true := c
  unfold cMulX at c
  rw [Bool.or_eq_true, Bool.or_eq_true] at c
  rcases c with (c | c) | c
  · have c := of_decide_eq_true c
    exact op_mul pins s σ H x y v u Q I rx ry ⟨i, j, e1, e2, .inl (by omega), q⟩
  · have c := of_decide_eq_true c
    exact op_mul pins s σ H x y v u Q I rx ry ⟨i, j, e1, e2, .inr (by omega), q⟩
  · exact op_mulW pins s σ H x y v u Q I rx ry ⟨i, j, e1, e2, cMul_ok i j c, q⟩
abbrev kSub (i j : Int) : R Int := .val (i - j)
abbrev kAnd (i j : Int) : R Int := .val (Builtin.bitAnd i j)
abbrev kOr (i j : Int) : R Int := .val (Builtin.bitOr i j)
abbrev kMul (i j : Int) : R Int := gq (cMulX i j) (i * j)
abbrev kDiv (i j : Int) : R Int := gq (cDiv i j) (i / j)
abbrev kMod (i j : Int) : R Int := gq (cMod i j) (i % j)
abbrev kPow (i j : Int) : R Int := gq (cPow i j) (i ^ j.toNat)
abbrev kShl (i j : Int) : R Int := gq (cShl i j) (i * 2 ^ j.toNat)
abbrev kShr (i j : Int) : R Int := gq (cShr i j) (i / 2 ^ j.toNat)
theorem ce_sub (ha : CE X W a f) (hb : CE X W b g) : CE X W (.BinOp a .Sub b pos) (dI kSub f g) := ce_ii (fun i j => .inr ⟨trivial, rfl⟩) (opI_of op_sub) ha hb
theorem ce_band (ha : CE X W a f) (hb : CE X W b g) : CE X W (.BinOp a .BitAnd b pos) (dI kAnd f g) := ce_ii (fun i j => .inr ⟨trivial, rfl⟩) (opI_of op_and) ha hb
theorem ce_bor (ha : CE X W a f) (hb : CE X W b g) : CE X W (.BinOp a .BitOr b pos) (dI kOr f g) := ce_ii (fun i j => .inr ⟨trivial, rfl⟩) (opI_of op_or) ha hb
theorem ce_mul (ha : CE X W a f) (hb : CE X W b g) : CE X W (.BinOp a .Mult b pos) (dI kMul f g) := ce_ii (fun i j => gq_cases _ _) op_mulG ha hb
theorem gqP {P : Int → Int → Prop} {c : Int → Int → Bool} (h : ∀ i j, c i j = true → P i j) (k : Int → Int → Int) (i j : Int) : gq (c i j) (k i j) = .bad ∨ (P i j ∧ gq (c i j) (k i j) = .val (k i j)) := (gq_cases _ _).imp id fun z => ⟨h i j z.1, z.2⟩
theorem ce_fdiv (ha : CE X W a f) (hb : CE X W b g) : CE X W (.BinOp a .FloorDiv b pos) (dI kDiv f g) := ce_ii (gqP cDiv_ok fun i j => i / j) op_fdivW ha hb
theorem ce_mod (ha : CE X W a f) (hb : CE X W b g) : CE X W (.BinOp a .Mod b pos) (dI kMod f g) := ce_ii (gqP cMod_ok fun i j => i % j) op_mod ha hb
theorem ce_pow (ha : CE X W a f) (hb : CE X W b g) : CE X W (.BinOp a .Pow b pos) (dI kPow f g) := ce_ii (gqP cPow_ok fun i j => i ^ j.toNat) op_pow ha hb
theorem ce_shl (ha : CE X W a f) (hb : CE X W b g) : CE X W (.BinOp a .LShift b pos) (dI kShl f g) := ce_ii (gqP cShl_ok fun i j => i * 2 ^ j.toNat) op_shlW ha hb
theorem ce_shr (ha : CE X W a f) (hb : CE X W b g) : CE X W (.BinOp a .RShift b pos) (dI kShr f g) := ce_ii (gqP cShr_ok fun i j => i / 2 ^ j.toNat) op_shr ha hb
def rdD (Γ : List Sl) : AV → Option PyData
  | .d _ x => some x
  | .s i => match Γ[i]? with
    | some (.own (.lst es)) => some (.list es)
    | some (.io (.lst es)) => some (.list es)
    | some (.lent (.lst es)) => some (.list es)
    | _ => none
theorem rdD_ok {Γ : List Sl} {y : AV} {x : PyData} (h : rdD Γ y = some x) : Rdb Γ y x := by
  cases y with
  | d fr z => cases h; exact .d
  | s i =>
    unfold rdD at h
    simp only at h
    split at h
    · cases h; exact .o ‹_›
    · cases h; exact .i ‹_›
    · cases h; exact .l ‹_›
    · cases h
def addA : AV → AV → R AV
  | .d _ (.int i), .d _ (.int j) => .val (.d true (.int (i + j)))
  | .d f1 (.tuple xs), .d f2 (.tuple ys) => gq (szB (xs ++ ys)) (.d (f1 && f2) (.tuple (xs ++ ys)))
  | .d _ (.str x), .d _ (.str y) => gq (decide (x.length + y.length ≤ sizeLine)) (.d true (.str (x ++ y)))
  | _, _ => .bad
def dAdd (f g : DF) : DF := fun Γ => (f Γ).bind fun x => (g x.2).bind fun y => (addA x.1 y.1).bind fun z => .val (z, y.2)
theorem rg_and1 (G : Gh) (f1 f2 : Bool) : RgLe (rg G f1) (rg G (f1 && f2)) := by
  cases f1 <;> cases f2
  · exact fun _ _ h => h
  · exact fun _ _ h => h
  · exact rg_ff G true
  · exact fun _ _ h => h
theorem rg_and2 (G : Gh) (f1 f2 : Bool) : RgLe (rg G f2) (rg G (f1 && f2)) := by
  rw [Bool.and_comm]
  exact rg_and1 G f2 f1
theorem ce_add (ha : CE X W a f) (hb : CE X W b g) : CE X W (.BinOp a .Add b pos) (dAdd f g) := by
  refine ce_op2 (fun x y Γ2 => (addA x y).bind fun z => .val (z, Γ2)) (opR_or op_add (opR_or op_catA op_add_str)) ha hb fun x y Γ2 G H σ u v Q S hu hv p => ?_
  unfold addA at p
  split at p
  · rename_i i _ j
    exact .inl ⟨i, j, dn_int hu, dn_int hv, Pk.v p S (.int _)⟩
  · rename_i f1 xs f2 ys
    rcases gq_cases (szB (xs ++ ys)) (AV.d (f1 && f2) (.tuple (xs ++ ys))) with e | ⟨hc, e⟩
    · rw [e] at p; exact p.elim
    · rw [e] at p
      have hc := of_decide_eq_true hc
      obtain ⟨q1, vs, rfl, g1, g2⟩ := dn_tupleH hu
      obtain ⟨q2, ws, rfl, g3, g4⟩ := dn_tupleH hv
      have d1 := g2.mono (rg_and1 G f1 f2) (TupLe.rf H)
      have d2 := g4.mono (rg_and2 G f1 f2) (TupLe.rf H)
      refine .inr (.inl ⟨q1, q2, vs, ws, rfl, rfl, SqT.of g1, SqT.of g3, by rw [g2.length, g4.length]; simpa using hc, fun e1 => ?_, fun _ e2 => ?_, fun _ _ l hl => ?_⟩)
      · subst e1
        cases d1
        exact Pk.v p S (.tup g3 d2)
      · subst e2
        cases d2
        refine Pk.v p S ?_
        rw [List.append_nil]
        exact .tup g1 d1
      · obtain ⟨G2, S2, e2, h2⟩ := S.newTup hl (d1.append d2)
        exact Pk.v' p e2 S2 h2
  · rename_i x _ y
    rcases gq_cases (decide (x.length + y.length ≤ sizeLine)) (AV.d true (.str (x ++ y))) with e | ⟨hc, e⟩
    · rw [e] at p; exact p.elim
    · rw [e] at p
      exact .inr (.inr ⟨x, y, dn_str hu, dn_str hv, of_decide_eq_true hc, Pk.v p S (.str _)⟩)
  · exact p.elim
def dNeg (f : DF) : DF := fun Γ => (f Γ).bind fun x => match x.1 with
  | .d _ (.int i) => .val (.d true (.int (-i)), x.2)
  | _ => .bad
end
section
variable {X : Cx} {W : WX} {sc : Scope} {N : List Str} {a b c e : Expr} {pos : Pos} {f g : DF}
theorem Ev.exc {Γ : List Sl} {τ τ' : Type} {x : Exn} {av : τ → AV} {Γ' : τ → List Sl} {av2 : τ' → AV} {Γ2 : τ' → List Sl} (h : Ev X W Γ e (.exc x : R τ) av Γ') : Ev X W Γ e (.exc x : R τ') av2 Γ2 := pe_imp h fun σ H Q ⟨G, S, p⟩ => ⟨G, S, p⟩
theorem Ev.map {Γ : List Sl} {τ τ' : Type} {m : R τ} {k : τ → τ'} {av : τ' → AV} {Γ' : τ' → List Sl} (h : Ev X W Γ e m (fun r => av (k r)) (fun r => Γ' (k r))) : Ev X W Γ e (m.bind fun r => .val (k r)) av Γ' :=
  pe_imp h fun σ H Q ⟨G, S, p⟩ => ⟨G, S, by cases m <;> exact p⟩
theorem un_rd {Γ : List Sl} {m : R (AV × List Sl)} {k : AV × List Sl → R (AV × List Sl)} {r : V → Hp → VK → Prop} (hk : ∀ x Γ2 G H σ v Q, Sta X.K G H σ Γ2 → AVok X.K G H σ v x → Pk X W G H σ (k (x, Γ2)) Q → r v H Q)
    {σ : St} {H : Hp} {Q : VK} (h : rdE X W Γ (m.bind k) Prod.fst Prod.snd σ H Q) : tUn r (rdE X W Γ m Prod.fst Prod.snd) σ H Q := by
  obtain ⟨G, S, p⟩ := h
  exact ⟨G, S, (Pst.bind p).imp fun x G1 H1 e1 p1 u S1 a1 => hk x.1 x.2 G1 H1 σ u Q S1 a1 p1⟩
theorem ce_neg (ha : CE X W a f) : CE X W (.UnaryOp .USub a pos) (dNeg f) := fun Γ =>
  pe_imp (pe_un un_neg (ha Γ)) fun σ H Q h => un_rd (fun x Γ2 G H σ v Q S hv p => by
    simp only at p
    split at p
    · exact ⟨_, dn_int hv, Pk.v p S (.int _)⟩
    · exact p.elim) h
theorem ce_cmp2 {op : CmpOp} {r : R2} (k : AV → AV → List Sl → R (AV × List Sl)) (ho : OpR X (compareOp op) r) (hm : behindInMarks op b = false) (ha : CE X W a f) (hb : CE X W b g)
    (hk : ∀ x y Γ2 G H σ u v Q, Sta X.K G H σ Γ2 → AVok X.K G H σ u x → AVok X.K G H σ v y → Pk X W G H σ (k x y Γ2) Q → r u v H Q) : CE X W (.Compare a [op] [b] pos) (fun Γ => (f Γ).bind fun x => (g x.2).bind fun y => k x.1 y.1 y.2) := fun Γ =>
  pe_imp (pe_cmpR ho (ha Γ) (pe_any fun x : AV × List Sl => hb x.2) hm) fun σ H Q h => bin_rd (X := X) (W := W) (ava := Prod.fst) (Γa := Prod.snd) (avb := fun _ (y : AV × List Sl) => y.1) (Γb := fun _ (y : AV × List Sl) => y.2) (avk := Prod.fst) (Γk := Prod.snd) (k := fun (x : AV × List Sl) (y : AV × List Sl) => k x.1 y.1 y.2) (fun x y G H σ u v Q S hu hv p => hk x.1 y.1 y.2 G H σ u v Q S hu hv p) h
def boolR (m : R Bool) (Γ : List Sl) : R (AV × List Sl) := m.bind fun b => .val (.d true (.bool b), Γ)
def dCmp (k : List Sl → AV → AV → R Bool) (f g : DF) : DF := fun Γ => (f Γ).bind fun x => (g x.2).bind fun y => boolR (k y.2 x.1 y.1) y.2
def kEq (Γ : List Sl) (x y : AV) : R Bool := match rdD Γ x, rdD Γ y with
  | some p, some q => gq (SeqAt.shaped p && SeqAt.shaped q) (PyData.eqv p q)
  | _, _ => .bad
def kNe (Γ : List Sl) (x y : AV) : R Bool := (kEq Γ x y).bind fun z => .val (!z)
theorem kEq_val {Γ : List Sl} {x y : AV} : (∃ p q, rdD Γ x = some p ∧ rdD Γ y = some q ∧ SeqAt.shaped p = true ∧ SeqAt.shaped q = true ∧ kEq Γ x y = .val (PyData.eqv p q)) ∨ kEq Γ x y = .bad := by
  unfold kEq
  split
  · rename_i p q h1 h2
    rcases gq_cases (SeqAt.shaped p && SeqAt.shaped q) (PyData.eqv p q) with e | ⟨hc, e⟩
    · exact .inr e
    · rw [Bool.and_eq_true] at hc
      exact .inl ⟨p, q, h1, h2, hc.1, hc.2, e⟩
  · exact .inr rfl
theorem ce_eq (C : Cf0 X W sc N) (ha : CE X W a f) (hb : CE X W b g) (hm : behindInMarks .Eq b = false := by first | exact nobehind _ (by decide) (by decide) | rfl) : CE X W (.Compare a [.Eq] [b] pos) (dCmp kEq f g) :=
  ce_cmp2 (fun x y Γ2 => boolR (kEq Γ2 x y) Γ2) (op_eqD C.hu) hm ha hb fun x y Γ2 G H σ u v Q S hu hv p => by
    rcases kEq_val (Γ := Γ2) (x := x) (y := y) with ⟨d, z, h1, h2, s1, s2, e⟩ | e
    · rw [e] at p
      exact ⟨d, z, ((rdD_ok h1).ok S hu).dps s1, ((rdD_ok h2).ok S hv).dps s2, s1, s2, Pk.v p S (.bl _)⟩
    · rw [e] at p; exact p.elim
theorem ce_ne (C : Cf0 X W sc N) (ha : CE X W a f) (hb : CE X W b g) (hm : behindInMarks .NotEq b = false := by first | exact nobehind _ (by decide) (by decide) | rfl) : CE X W (.Compare a [.NotEq] [b] pos) (dCmp kNe f g) :=
  ce_cmp2 (fun x y Γ2 => boolR (kNe Γ2 x y) Γ2) (op_neD C.hu) hm ha hb fun x y Γ2 G H σ u v Q S hu hv p => by
    unfold kNe at p
    rcases kEq_val (Γ := Γ2) (x := x) (y := y) with ⟨d, z, h1, h2, s1, s2, e⟩ | e
    · rw [e] at p
      exact ⟨d, z, ((rdD_ok h1).ok S hu).dps s1, ((rdD_ok h2).ok S hv).dps s2, s1, s2, Pk.v p S (.bl _)⟩
    · rw [e] at p; exact p.elim
def kI (h : Int → Int → Bool) (_ : List Sl) : AV → AV → R Bool
  | .d _ (.int i), .d _ (.int j) => .val (h i j)
  | _, _ => .bad
theorem ce_cmpI {op : CmpOp} {h : Int → Int → Bool} (ho : OpR X (compareOp op) (rI0 fun i j => .bl (h i j))) (ha : CE X W a f) (hb : CE X W b g) (hm : behindInMarks op b = false) : CE X W (.Compare a [op] [b] pos) (dCmp (kI h) f g) :=
  ce_cmp2 (fun x y Γ2 => boolR (kI h Γ2 x y) Γ2) ho hm ha hb fun x y Γ2 G H σ u v Q S hu hv p => by
    unfold kI at p
    split at p
    · rename_i i _ j
      exact ⟨i, j, dn_int hu, dn_int hv, Pk.v p S (.bl _)⟩
    · exact p.elim
theorem ce_lt (ha : CE X W a f) (hb : CE X W b g) (hm : behindInMarks .Lt b = false := by first | exact nobehind _ (by decide) (by decide) | rfl) : CE X W (.Compare a [.Lt] [b] pos) (dCmp (kI fun i j => decide (i < j)) f g) := ce_cmpI op_lt ha hb hm
theorem ce_le (ha : CE X W a f) (hb : CE X W b g) (hm : behindInMarks .LtE b = false := by first | exact nobehind _ (by decide) (by decide) | rfl) : CE X W (.Compare a [.LtE] [b] pos) (dCmp (kI fun i j => decide (i ≤ j)) f g) := ce_cmpI op_le ha hb hm
theorem ce_gt (ha : CE X W a f) (hb : CE X W b g) (hm : behindInMarks .Gt b = false := by first | exact nobehind _ (by decide) (by decide) | rfl) : CE X W (.Compare a [.Gt] [b] pos) (dCmp (kI fun i j => decide (j < i)) f g) := ce_cmpI op_gt ha hb hm
theorem ce_ge (ha : CE X W a f) (hb : CE X W b g) (hm : behindInMarks .GtE b = false := by first | exact nobehind _ (by decide) (by decide) | rfl) : CE X W (.Compare a [.GtE] [b] pos) (dCmp (kI fun i j => decide (j ≤ i)) f g) := ce_cmpI op_ge ha hb hm
def isN : PyData → Bool
  | .none => true
  | _ => false
def kIs (Γ : List Sl) (x y : AV) : R Bool := match rdD Γ x, y with
  | some p, .d _ .none => .val (isN p)
  | _, _ => .bad
theorem dn_isN {K : PySem.W.Frag} {G : Rg} {H : Hp} {v : V} {p : PyData} (h : Dn K G H v p) : decide (v = .non) = isN p := by cases h <;> rfl
theorem ce_is (ha : CE X W a f) (hb : CE X W b g) (hm : behindInMarks .Is b = false := by first | exact nobehind _ (by decide) (by decide) | rfl) : CE X W (.Compare a [.Is] [b] pos) (dCmp kIs f g) :=
  ce_cmp2 (fun x y Γ2 => boolR (kIs Γ2 x y) Γ2) op_isN hm ha hb fun x y Γ2 G H σ u v Q S hu hv p => by
    unfold kIs at p
    split at p
    · rename_i z _ h1
      refine ⟨dn_none hv, ?_⟩
      rw [dn_isN ((rdD_ok h1).ok S hu)]
      exact Pk.v p S (.bl _)
    · exact p.elim
def flD : PyData → Bool
  | .none => true
  | .bool _ => true
  | .int _ => true
  | .str _ => true
  | _ => false
def kIn (Γ : List Sl) (x y : AV) : R Bool := match rdD Γ x, rdD Γ y with
  | some d, some (.list ds) => gq (SeqAt.shaped d && SeqAt.shaped (.list ds)) (ds.any fun z => PyData.eqv z d)
  | some d, some (.tuple ds) => gq (flD d && ds.all flD) (ds.any fun z => PyData.eqv z d)
  | _, _ => .bad
theorem flD_ok {K : PySem.W.Frag} {G : Rg} {H : Hp} {v : V} {p : PyData} (h : Dn K G H v p) (hf : flD p = true) : flatV v = true := by cases h <;> first | rfl | cases hf
theorem eqV_ok {K : PySem.W.Frag} {G : Rg} {H : Hp} {v u : V} {p q : PyData} (h : Dn K G H v p) (h' : Dn K G H u q) (hf : flD p = true) (hq : flD q = true) : eqV v u = PyData.eqv p q := by
  cases h <;> first | cases hf; done | (cases h' <;> first | cases hq; done | (simp [eqV, PyData.eqv]))
theorem inV_ok {K : PySem.W.Frag} {G : Rg} {H : Hp} {v : V} {p : PyData} (h : Dn K G H v p) (hf : flD p = true) : ∀ {vs : List V} {ds : List PyData}, DnA K G H vs ds → ds.all flD = true → vs.all flatV = true ∧ inV v vs = ds.any fun z => PyData.eqv z p
  | _, _, .nil, _ => ⟨rfl, rfl⟩
  | _, _, .cons q r, hq => by
    simp only [List.all_cons, Bool.and_eq_true] at hq
    obtain ⟨h1, h2⟩ := inV_ok h hf r hq.2
    refine ⟨by simp [h1, flD_ok q hq.1], ?_⟩
    unfold inV at h2 ⊢
    rw [List.any_cons, List.any_cons, h2, eqV_ok q h hq.1 hf]
theorem kIn_cases {G : Gh} {H : Hp} {σ : St} {Γ : List Sl} {x y : AV} {u v : V} (S : Sta X.K G H σ Γ) (hu : AVok X.K G H σ u x) (hv : AVok X.K G H σ v y) : kIn Γ x y = .bad ∨ ∃ z, kIn Γ x y = .val z ∧
    ((∃ d ds, Dp X.K H u d ∧ Dp X.K H v (.list ds) ∧ SeqAt.shaped d = true ∧ SeqAt.shaped (.list ds) = true ∧ z = ds.any fun z => PyData.eqv z d) ∨
     (∃ p xs, v = .ref p ∧ SqT X.K H p xs ∧ flatV u = true ∧ xs.all flatV = true ∧ z = inV u xs)) := by
  unfold kIn
  split
  · rename_i d ds h1 h2
    rcases gq_cases (SeqAt.shaped d && SeqAt.shaped (.list ds)) (ds.any fun z => PyData.eqv z d) with e | ⟨hc, e⟩
    · exact .inl e
    · rw [Bool.and_eq_true] at hc
      exact .inr ⟨_, e, .inl ⟨d, ds, ((rdD_ok h1).ok S hu).dps hc.1, ((rdD_ok h2).ok S hv).dps hc.2, hc.1, hc.2, rfl⟩⟩
  · rename_i d ds h1 h2
    rcases gq_cases (flD d && ds.all flD) (ds.any fun z => PyData.eqv z d) with e | ⟨hc, e⟩
    · exact .inl e
    · rw [Bool.and_eq_true] at hc
      obtain ⟨p, xs, rfl, g1, g2⟩ := dn_tuple ((rdD_ok h2).ok S hv)
      obtain ⟨q1, q2⟩ := inV_ok ((rdD_ok h1).ok S hu) hc.1 g2 hc.2
      exact .inr ⟨_, e, .inr ⟨p, xs, rfl, g1, flD_ok ((rdD_ok h1).ok S hu) hc.1, q1, q2.symm⟩⟩
  · exact .inl rfl
def asB : AV × List Sl → R (Bool × List Sl)
  | (.d _ (.bool z), Γ) => .val (z, Γ)
  | _ => .bad
def dTst (f : DF) : DT := fun Γ => (f Γ).bind asB
theorem ct_lift {f : DF} (ha : CE X W e f) (h1 : ∀ Γ (z : Bool) (fr : Bool) (Γ1 : List Sl), Ev X W Γ e (R.val ()) (fun _ => .d fr (.bool z)) (fun _ => Γ1) → EvT X W Γ e (R.val ()) (fun _ => z) (fun _ => Γ1))
    (h2 : ∀ Γ x, Ev X W Γ e (.exc x : R Unit) (fun _ => .d true (.bool true)) (fun _ => Γ) → EvT X W Γ e (.exc x : R Unit) (fun _ => true) (fun _ => Γ)) : CT X W e (dTst f) := fun Γ => by
  have h := ha Γ
  unfold dTst
  cases hf : f Γ with
  | bad => exact evt_bad
  | exc x =>
    rw [hf] at h
    exact pt_imp (h2 Γ x (Ev.exc h)) fun σ H Q ⟨G, S, p⟩ => ⟨G, S, p⟩
  | val z =>
    rw [hf] at h
    obtain ⟨y, Γ1⟩ := z
    show EvT X W Γ e (asB (y, Γ1)) _ _
    unfold asB
    split
    · rename_i hz
      cases hz
      exact h1 Γ _ _ _ h
    · exact evt_bad
theorem ct_of (ha : CE X W e f) (he : ∀ whole, isTrue e X.env whole = (do let v ← whole; standAt e.pos; holding [v] (truthy v)) := by intro _; rfl) : CT X W e (dTst f) := ct_lift ha (fun Γ z fr Γ1 h => Ev.tst h he) (fun Γ x h => Ev.tst h he)
theorem ct_cmp {op : CmpOp} (ha : CE X W (.Compare a [op] [b] pos) f) (hm : behindInMarks op b = false := by first | exact nobehind _ (by decide) (by decide) | rfl) : CT X W (.Compare a [op] [b] pos) (dTst f) := ct_lift ha (fun Γ z fr Γ1 h => Ev.tstC h hm) (fun Γ x h => Ev.tstC h hm)
def dTnot (f : DT) : DT := fun Γ => (f Γ).bind fun z => .val (!z.1, z.2)
theorem EvT.map {Γ : List Sl} {τ τ' : Type} {m : R τ} {k : τ → τ'} {av : τ' → Bool} {Γ' : τ' → List Sl} (h : EvT X W Γ e m (fun r => av (k r)) (fun r => Γ' (k r))) : EvT X W Γ e (m.bind fun r => .val (k r)) av Γ' :=
  pt_imp h fun σ H Q ⟨G, S, p⟩ => ⟨G, S, by cases m <;> exact p⟩
theorem ct_not {f : DT} (ha : CT X W a f) : CT X W (.UnaryOp .Not a pos) (dTnot f) := fun Γ => EvT.map (evt_notM (ha Γ))
theorem ct_w {f : DT} (h : CW X W e f) : CT X W e f := fun Γ => (h Γ).t
variable {rest : List Expr}
theorem cw_or1 {f : DT} (h : CT X W a f) : CW X W (.BoolOp .Or [a] pos) f := fun Γ => evw_orM1 (h Γ)
theorem cw_and1 {f : DT} (h : CT X W a f) : CW X W (.BoolOp .And [a] pos) f := fun Γ => evw_andM1 (h Γ)
def dTor (f g : DT) : DT := fun Γ => (f Γ).bind fun x => if x.1 then .val (true, x.2) else (g x.2).bind fun y => .val y
def dTand (f g : DT) : DT := fun Γ => (f Γ).bind fun x => if x.1 then (g x.2).bind fun y => .val y else .val (false, x.2)
theorem cw_or {f g : DT} (ha : CT X W a f) (hb : CW X W (.BoolOp .Or (b :: rest) pos) g) : CW X W (.BoolOp .Or (a :: b :: rest) pos) (dTor f g) := fun Γ => evw_orM (ha Γ) (fun x => hb x.2) (fun x => (true, x.2)) (fun _ y => y)
theorem cw_and {f g : DT} (ha : CT X W a f) (hb : CW X W (.BoolOp .And (b :: rest) pos) g) : CW X W (.BoolOp .And (a :: b :: rest) pos) (dTand f g) := fun Γ => evw_andM (ha Γ) (fun x => hb x.2) (fun x => (false, x.2)) (fun _ y => y)
end
section
variable {X : Cx} {W : WX} {sc : Scope} {N : List Str} {a b c e : Expr} {es : List Expr} {pos p : Pos} {f g : DF} {k : DA}
theorem ce_one {op : BoolOp} (ha : CE X W a f) : CE X W (.BoolOp op [a] pos) f := fun Γ => evv_oneM (ha Γ)
variable {rest : List Expr}
def dAnd (f g : DF) : DF := fun Γ => (f Γ).bind fun x => (asB x).bind fun u => if u.1 then (g u.2).bind fun y => (asB y).bind fun z => .val (.d true (.bool z.1), z.2) else .val (.d true (.bool false), u.2)
def dOr (f g : DF) : DF := fun Γ => (f Γ).bind fun x => (asB x).bind fun u => if u.1 then .val (.d true (.bool true), u.2) else (g u.2).bind fun y => (asB y).bind fun z => .val (.d true (.bool z.1), z.2)
theorem ce_and (ha : CE X W a f) (hb : CE X W (.BoolOp .And (b :: rest) pos) g) : CE X W (.BoolOp .And (a :: b :: rest) pos) (dAnd f g) := fun Γ =>
  pe_imp (pe_and (ha Γ) (pe_any fun Γ1 => hb Γ1)) fun σ H Q ⟨G, S, q⟩ => ⟨G, S, (Pst.bind q).imp fun x G1 H1 e1 p1 v S1 hv => by
    obtain ⟨x, Γ1⟩ := x
    unfold asB at p1
    split at p1
    · rename_i z Γ2 hz
      cases hz
      refine ⟨_, dn_bool hv, ?_⟩
      have p1 : Pst X W G1 H1 σ (if z then (g Γ1).bind fun y => (asB y).bind fun z => .val (.d true (.bool z.1), z.2) else .val (.d true (.bool false), Γ1)) (fun r G' H' => ∀ w, Sta X.K G' H' σ r.2 → AVok X.K G' H' σ w r.1 → Q w H') := p1
      cases z with
      | false => exact itF (p1 G1 H1 (Ext.rf S1.w) _ S1 (.bl _))
      | true =>
        refine itT ⟨Γ1, G1, S1, (Pst.bind p1).imp fun y G2 H2 e2 p2 w S2 hw => ?_⟩
        obtain ⟨y, Γ2⟩ := y
        unfold asB at p2
        split at p2
        · rename_i hz
          cases hz
          have hw : Dn X.K _ H2 w (.bool _) := hw
          rw [dn_bool hw]
          exact p2 G2 H2 (Ext.rf S2.w) _ S2 (.bl _)
        · exact p2.elim
    · exact p1.elim⟩
def dNot (f : DF) : DF := fun Γ => (f Γ).bind fun x => (asB x).bind fun u => .val (.d true (.bool (!u.1)), u.2)
theorem ce_not (ha : CE X W a f) : CE X W (.UnaryOp .Not a pos) (dNot f) := fun Γ =>
  pe_imp (pe_not (ha Γ)) fun σ H Q ⟨G, S, q⟩ => ⟨G, S, (Pst.bind q).imp fun x G1 H1 e1 p1 v S1 hv => by
    obtain ⟨x, Γ1⟩ := x
    unfold asB at p1
    split at p1
    · rename_i z Γ2 hz
      cases hz
      exact ⟨_, dn_bool hv, p1 G1 H1 (Ext.rf S1.w) _ S1 (.bl _)⟩
    · exact p1.elim⟩
def dA0 : DA := fun Γ => .val ([], Γ)
def dAc (f : DF) (k : DA) : DA := fun Γ => (f Γ).bind fun x => (k x.2).bind fun y => .val (x.1 :: y.1, y.2)
theorem ca_nil : CA X W [] dA0 := fun Γ => eva_nil (W := W)
theorem ca_cons (ha : CE X W e f) (hb : CA X W es k) (hst : starEach (e :: es) X.env = (false, eval e X.env) :: starEach es X.env := by rfl) : CA X W (e :: es) (dAc f k) := fun Γ => eva_cons (as := Prod.fst) (Γk := Prod.snd) (fun (x : AV × List Sl) (y : List AV × List Sl) => (x.1 :: y.1, y.2)) (ha Γ) (fun x => hb x.2) (fun _ _ => rfl) (fun _ _ => rfl) hst
def frzA : AV × List Sl → R (AV × List Sl)
  | (.d true d, Γ) => .val (.d true d, Γ)
  | (.d false d, Γ) => .val (.d (flat d) d, Γ)
  | (.s i, Γ) => match Γ[i]? with
    | some (.own (.lst es)) => .val (.d true (.list es), Γ.set i (.dat true (.list es)))
    | _ => .bad
def dFrz (f : DF) : DF := fun Γ => (f Γ).bind frzA
theorem Pk.ext {G G' : Gh} {H H' : Hp} {σ : St} {m : R (AV × List Sl)} {Q : VK} (h : Pk X W G H σ m Q) (e : Ext G H G' H') : Pk X W G' H' σ m Q := Pst.ext h e
theorem frz_ok {G : Gh} {H : Hp} {σ : St} {x : AV} {Γ : List Sl} {v : V} {Q : VK} (S : Sta X.K G H σ Γ) (hv : AVok X.K G H σ v x) (p : Pk X W G H σ (frzA (x, Γ)) Q) : Q v H := by
  unfold frzA at p
  split at p
  · rename_i hz; cases hz; exact Pk.v p S hv
  · rename_i d Γ2 hz
    cases hz
    refine Pk.v p S ?_
    cases hf : flat d with
    | false => exact hv
    | true => exact Dn.free hv hf
  · rename_i i Γ2 hz
    cases hz
    split at p
    · rename_i ds hi
      obtain ⟨A, T⟩ := id S
      obtain ⟨G2, S2, e2⟩ := S.freeze i hi
      have h2 : (Γ.set i (.dat true (.list ds)))[i]? = some (.dat true (.list ds)) := set_at (List.getElem?_eq_some_iff.mp hi).1
      obtain ⟨A2, T2⟩ := id S2
      obtain ⟨_, w, g1, g2⟩ := T2.sl i _ h2
      have hv : σ[i]? = some (some v) := hv
      rw [hv] at g1
      cases g1
      exact Pk.v' p e2 S2 g2
    · exact p.elim
theorem ce_frz (ha : CE X W e f) : CE X W e (dFrz f) := fun Γ =>
  pe_imp (ha Γ) fun σ H Q ⟨G, S, q⟩ => ⟨G, S, (Pst.bind q).imp fun x G1 H1 e1 p1 v S1 hv => frz_ok (x := x.1) (Γ := x.2) S1 hv p1⟩
def avD : AV → Option PyData
  | .d true d => some d
  | _ => none
def allT : List AV → Option (List PyData)
  | [] => some []
  | .d true d :: as => (allT as).map (d :: ·)
  | _ => none
def allF : List AV → Option (List PyData × Bool)
  | [] => some ([], true)
  | .d fr d :: as => (allF as).map fun z => (d :: z.1, fr && z.2)
  | _ => none
theorem allT_ok {K : PySem.W.Frag} {G : Gh} {H : Hp} {σ : St} : ∀ {as : List AV} {ds : List PyData} {vs : List V}, allT as = some ds → AVs K G H σ vs as → DnA K (rg G true) H vs ds
  | [], _, _, h, .nil => by cases h; exact .nil
  | .d true d :: as, ds, _, h, .cons q r => by
    unfold allT at h
    cases e : allT as with
    | none => rw [e] at h; cases h
    | some xs => rw [e] at h; cases h; exact .cons q (allT_ok e r)
  | .d false d :: as, ds, _, h, _ => by cases h
  | .s i :: as, ds, _, h, _ => by cases h
theorem allF_ok {K : PySem.W.Frag} {G : Gh} {H : Hp} {σ : St} : ∀ {as : List AV} {z : List PyData × Bool} {vs : List V}, allF as = some z → AVs K G H σ vs as → DnA K (rg G z.2) H vs z.1
  | [], _, _, h, .nil => by cases h; exact .nil
  | .d fr d :: as, ds, _, h, .cons q r => by
    unfold allF at h
    cases e : allF as with
    | none => rw [e] at h; cases h
    | some xs =>
      rw [e] at h
      cases h
      exact .cons (Dn.mono (rg_and1 G fr xs.2) (TupLe.rf _) q) ((allF_ok e r).mono (rg_and2 G fr xs.2) (TupLe.rf _))
  | .s i :: as, ds, _, h, _ => by cases h
def dLst (k : DA) : DN := fun Γ => (k Γ).bind fun z => match allT z.1 with
  | some ds => gq (szB z.1) (ds, z.2)
  | none => .bad
theorem cn_lst (ha : CA X W es k) : CN X W (.List es pos) (dLst k) := fun Γ =>
  pe_imp (pe_lst (ha Γ)) fun σ H Q ⟨G, S, q⟩ => ⟨G, S, (Pst.bind q).imp fun x G1 H1 e1 p1 vs S1 av => by
    split at p1
    · rename_i ds hd
      rcases gq_cases (szB x.1) (ds, x.2) with e | ⟨hc, e⟩
      · rw [e] at p1; exact p1.elim
      · rw [e] at p1
        exact ⟨by rw [av.len]; exact of_decide_eq_true hc, fun q hq => p1 G1 H1 (Ext.rf S1.w) q vs S1 hq (allT_ok hd av)⟩
    · exact p1.elim⟩
def dTup (k : DA) : DF := fun Γ => (k Γ).bind fun z => match allF z.1 with
  | some ds => gq (szB z.1) (.d ds.2 (.tuple ds.1), z.2)
  | none => .bad
theorem ce_tup {kk : Nat} (ha : CA X W es k) : CE X W (.Tuple es kk pos) (dTup k) := fun Γ =>
  pe_imp (pe_tup (ha Γ)) fun σ H Q ⟨G, S, q⟩ => ⟨G, S, (Pst.bind q).imp fun x G1 H1 e1 p1 vs S1 av => by
    split at p1
    · rename_i ds hd
      rcases gq_cases (szB x.1) (AV.d ds.2 (.tuple ds.1), x.2) with e | ⟨hc, e⟩
      · rw [e] at p1; exact p1.elim
      · rw [e] at p1
        refine ⟨by rw [av.len]; exact of_decide_eq_true hc, fun q hq => ?_⟩
        obtain ⟨G2, S2, e2, h2⟩ := S1.newTup hq (allF_ok hd av)
        exact p1 G2 _ e2 _ S2 h2
    · exact p1.elim⟩
def dOfN (n : DN) : DF := fun Γ => (n Γ).bind fun z => .val (.d true (.list z.1), z.2)
theorem ce_ofN {n : DN} (h : CN X W e n) : CE X W e (dOfN n) := fun Γ => Ev.map (k := fun z : List PyData × List Sl => (AV.d true (.list z.1), z.2)) (EvF.ev (h Γ))
def ixA (Γ : List Sl) (x y : AV) : R AV := match x, y with
  | .d fr (.list ds), .d _ (.int i) => (R.ofO (atI ds i)).bind fun d => .val (.d fr d)
  | .d fr (.tuple ds), .d _ (.int i) => (R.ofO (atI ds i)).bind fun d => .val (.d fr d)
  | .s j, .d _ (.int i) => match rdD Γ (.s j) with
    | some (.list ds) => (R.ofO (atI ds i)).bind fun d => .val (.d true d)
    | _ => .bad
  | _, _ => .bad
theorem Sta.slotL {K : PySem.W.Frag} {G : Gh} {H : Hp} {σ : St} {Γ : List Sl} {j : Nat} {ds : List PyData} {u : V} (S : Sta K G H σ Γ) (h : rdD Γ (.s j) = some (.list ds)) (hu : σ[j]? = some (some u)) : ∃ p vs, u = .ref p ∧ H p = some (.lst vs) ∧ DnA K (rg G true) H vs ds := by
  have hg : Γ[j]? = some (.own (.lst ds)) ∨ Γ[j]? = some (.io (.lst ds)) ∨ Γ[j]? = some (.lent (.lst ds)) := by
    unfold rdD at h
    simp only at h
    split at h
    · cases h; exact .inl ‹_›
    · cases h; exact .inr (.inl ‹_›)
    · cases h; exact .inr (.inr ‹_›)
    · cases h
  have : ∃ p vs, σ[j]? = some (some (.ref p)) ∧ H p = some (.lst vs) ∧ DnA K (rg G true) H vs ds := by
    rcases hg with hg | hg | hg
    · obtain ⟨p, vs, q1, q2, q3, _⟩ := S.change j hg
      exact ⟨p, vs, q1, q2, q3⟩
    · obtain ⟨p, vs, q1, q2, q3, _⟩ := S.changeIo j hg
      exact ⟨p, vs, q1, q2, q3⟩
    · obtain ⟨p, vs, q1, q2, _, q3⟩ := S.lentL hg
      exact ⟨p, vs, q1, q2, q3⟩
  obtain ⟨p, vs, q1, q2, q3⟩ := this
  rw [q1] at hu
  cases hu
  exact ⟨p, vs, rfl, q2, q3⟩
end
end PD
set_option Elab.async false
set_option linter.all false
set_option maxRecDepth 100000
set_option maxHeartbeats 4000000
set_option autoImplicit false
namespace PD
open PySem L2
def NewC (K : PySem.W.Frag) (G : Rg) (H : Hp) (c : Cl) (v : V) (H' : Hp) : Prop := ∃ fp : List Addr, (∀ a, a ∉ fp → H' a = H a) ∧ (∀ p ∈ fp, H p = none ∧ H' p ≠ none) ∧ c.ok K G H' v fp
theorem newc_lst {K : PySem.W.Frag} {G : Rg} {H : Hp} {p : Addr} {vs : List V} {ds : List PyData} (hp : H p = none) (hd : DnA K G H vs ds) : NewC K G H (.lst ds) (.ref p) (upd H p (.lst vs)) :=
  ⟨[p], fun a h => upd_ne (by simpa using h), fun q hq => by
    have : q = p := by simpa using hq
    subst this
    exact ⟨hp, by rw [upd_same]; simp⟩, p, vs, rfl, rfl, upd_same, hd.mono (fun _ _ z => z) (tup_upd hp)⟩
theorem newc_dic {K : PySem.W.Frag} {G : Rg} {H : Hp} {p : Addr} {o : HO} {t : Dk} {vs : List V} {kvs : List (PyData × PyData)} (hp : H p = none) (ho : DcO t p o (kvs.map (·.1)) vs) (hd : DnA K G H vs (kvs.map (·.2))) : NewC K G H (.dic t kvs) (.ref p) (upd H p o) :=
  ⟨[p], fun a h => upd_ne (by simpa using h), fun q hq => by
    have : q = p := by simpa using hq
    subst this
    exact ⟨hp, by rw [upd_same]; simp⟩, p, o, vs, rfl, rfl, upd_same, ho, hd.mono (fun _ _ z => z) (tup_upd hp)⟩
theorem NewC.grow {K : PySem.W.Frag} {G : Gh} {H H' : Hp} {R' : Rg} {c : Cl} {v : V} (w : Wf G H) {fp : List Addr} (h1 : ∀ a, a ∉ fp → H' a = H a) (h2 : ∀ p ∈ fp, H p = none ∧ H' p ≠ none) : Grow G H G.N H' [] := by
  have k : ∀ a o, H a = some o → H' a = some o := fun a o h => by
    rw [h1 a fun hp => by rw [(h2 a hp).1] at h; cases h]
    exact h
  exact ⟨fun a o h _ => k a o h, fun _ h => absurd h (by simp), fun a xs h => k _ _ h, fun _ _ h => h, fun a o h => ⟨k _ _ (w.new a o h).1, .inl h⟩⟩
theorem Sta.putC {K : PySem.W.Frag} {G : Gh} {H H' : Hp} {σ : St} {Γ : List Sl} {c : Cl} {v : V} (s : Sta K G H σ Γ) (i : Nat) (h : NewC K (rg G true) H c v H') : Sta K G H' (σ.set i (some v)) (Γ.set i (.own c)) ∧ Ext G H G H' := by
  obtain ⟨A, S⟩ := s
  obtain ⟨fp, h1, h2, h3⟩ := h
  refine S.step (i := i) (fp' := fp) (NewC.grow (K := K) (R' := rg G true) (c := c) (v := v) S.w h1 h2) (fun p hp => absurd hp (by simp)) (fun j hj => List.getElem?_set_ne (Ne.symm hj)) (List.length_set ..) (fun hlt => ⟨v, ?_, fun q hq => ?_, h3⟩) (fun q hq => ?_)
  · exact set_at (by rw [← S.len]; exact hlt)
  · exact (S.w.fresh (h2 q hq).1).2.1
  · exact ⟨(h2 q hq).2, (S.w.fresh (h2 q hq).1).1, .inr (h2 q hq).1⟩
theorem Cl.nt {K : PySem.W.Frag} {G : Rg} {H : Hp} {v : V} {fp : List Addr} {c : Cl} (h : c.ok K G H v fp) : ∀ p ∈ fp, ∃ o, H p = some o ∧ (∀ xs, o ≠ .tup xs) ∧ ∀ x y, o ≠ .frz x y := by
  cases c with
  | lst ds =>
    obtain ⟨p, vs, rfl, rfl, h1, h2⟩ := h
    intro q hq
    have : q = p := by simpa using hq
    subst this
    exact ⟨_, h1, fun _ z => (nomatch z), fun _ _ z => (nomatch z)⟩
  | tr T => exact h.1.nt
  | mul t l => exact h.1.nt
  | dic t kvs =>
    obtain ⟨p, o, vs, rfl, rfl, h1, h2, h3⟩ := h
    intro q hq
    have : q = p := by simpa using hq
    subst this
    cases t with
    | k => obtain ⟨_, rfl, _⟩ := h2; exact ⟨_, h1, fun _ z => (nomatch z), fun _ _ z => (nomatch z)⟩
    | t => obtain ⟨_, rfl, _⟩ := h2; exact ⟨_, h1, fun _ z => (nomatch z), fun _ _ z => (nomatch z)⟩
    | n => obtain ⟨_, _, rfl, _⟩ := h2; exact ⟨_, h1, fun _ z => (nomatch z), fun _ _ z => (nomatch z)⟩
  | feed f =>
    obtain ⟨d, l, rfl, rfl, h3, h4, h5⟩ := h
    intro q hq
    simp only [List.mem_cons, List.not_mem_nil, or_false] at hq
    rcases hq with rfl | rfl
    · exact ⟨_, h4, fun _ z => (nomatch z), fun _ _ z => (nomatch z)⟩
    · exact ⟨_, h5, fun _ z => (nomatch z), fun _ _ z => (nomatch z)⟩
theorem Sta.releaseC {K : PySem.W.Frag} {G : Gh} {H : Hp} {σ : St} {Γ : List Sl} {c : Cl} (s : Sta K G H σ Γ) (i : Nat) (hi : Γ[i]? = some (.own c)) :
    ∃ v H', σ[i]? = some (some v) ∧ Sta K G H' σ (Γ.set i .un) ∧ Ext G H G H' ∧ NewC K (rg G true) H' c v H := by
  obtain ⟨A, S⟩ := s
  obtain ⟨v, h1, h0, hc⟩ := S.sl i _ hi
  have nt := Cl.nt hc
  let H' : Hp := fun a => if a ∈ A i then none else H a
  have hne : ∀ a, a ∉ A i → H' a = H a := fun a h => if_neg h
  have hin : ∀ a, a ∈ A i → H' a = none := fun a h => if_pos h
  have nA : ∀ j, j ≠ i → ∀ p, p ∈ A j → p ∉ A i := fun j hj p h h' => hj (S.dj j i p h h')
  have t : TupLe H H' := fun a xs h => by
    rw [hne a fun z => by obtain ⟨o, e, q, _⟩ := nt a z; rw [e] at h; exact q xs (Option.some.inj h)]
    exact h
  have w : Wf G H' := by
    refine ⟨fun a u h h2 => ?_, fun a u h => ?_, fun a h => ?_, S.w.p0, fun a u h => ?_, fun i q h => (S.w.iv i q h).imp id fun z => z.imp id fun ⟨xs, z⟩ => ⟨xs, t q xs z⟩⟩
    · rw [hne a fun z => by rw [h0 a z] at h; cases h]
      exact S.w.keep a u h h2
    · rw [hne a fun z => by rw [(S.al i a z).2.1] at h; cases h]
      exact S.w.new a u h
    · rw [hne a fun z => S.w.p0 a h (h0 a z)]
      exact S.w.pal a h
    · rw [hne a fun z => by rw [S.ae i a z] at h; cases h]
      exact S.w.ex a u h
  have e : Ext G H G H' := ⟨rfl, rfl, rfl, rfl, fun _ _ h => h, fun _ _ h => .inl h, t, w⟩
  refine ⟨v, H', h1, ⟨fun j => if j = i then [] else A j, w, by rw [List.length_set]; exact S.len, fun j s h => ?_, fun j q h => ?_, fun j q h => ?_, fun j k q h h2 => ?_, rf_set S.rf rfl (fun j hj => if_neg hj) (fun _ _ => rfl)⟩, e, A i, fun a h => (hne a h).symm, fun p hp => ⟨hin p hp, (S.al i p hp).1⟩, hc⟩
  · by_cases hj : j = i
    · subst hj
      rw [List.getElem?_set_self (List.getElem?_eq_some_iff.mp hi).1] at h
      cases h
      show (if j = j then [] else A j) = []
      rw [if_pos rfl]
    · rw [List.getElem?_set_ne (Ne.symm hj)] at h
      show SlOk K G H' j σ[j]? (if j = i then [] else A j) s
      rw [if_neg hj]
      exact (S.sl j s h).mono e fun a ha => hne a (nA j hj a ha)
  · by_cases hj : j = i
    · rw [if_pos hj] at h; cases h
    · rw [if_neg hj] at h
      exact ⟨by rw [hne q (nA j hj q h)]; exact (S.al j q h).1, (S.al j q h).2⟩
  · by_cases hj : j = i
    · rw [if_pos hj] at h; cases h
    · rw [if_neg hj] at h
      exact S.ae j q h
  · by_cases hj : j = i
    · rw [if_pos hj] at h; cases h
    · by_cases hk : k = i
      · rw [if_pos hk] at h2; cases h2
      · rw [if_neg hj] at h
        rw [if_neg hk] at h2
        exact S.dj j k q h h2
def frzC : Cl → Option PyData
  | .lst ds => some (.list ds)
  | .dic _ _ => none
  | .feed _ => none
  | .tr T => trD T
  | .mul _ _ => none
theorem NewC.frz {K : PySem.W.Frag} {G : Gh} {H H' : Hp} {σ : St} {Γ : List Sl} {c : Cl} {v : V} {d : PyData} (S : Sta K G H σ Γ) (h : NewC K (rg G true) H c v H') (hd : frzC c = some d) :
    ∃ G', Sta K G' H' σ Γ ∧ Ext G H G' H' ∧ Dn K (rg G' true) H' v d := by
  have key : ∀ p o, (∀ a, a ∉ [p] → H' a = H a) → H p = none → H' p = some o → ∃ G', Sta K G' H' σ Γ ∧ Ext G H G' H' ∧ RgLe (rg G true) (rg G' true) ∧ rg G' true p o := fun p o h1 hp ho => by
    have e : H' = upd H p o := by
      funext a
      by_cases q : a = p
      · subst q; rw [upd_same]; exact ho
      · rw [upd_ne q]; exact h1 a (by simpa using q)
    subst e
    obtain ⟨S2, e2⟩ := S.grow (grow_new (o := o) S.w hp)
    exact ⟨_, S2, e2, e2.n, upd_same⟩
  obtain ⟨fp, h1, h2, h3⟩ := h
  cases c with
  | lst ds =>
    cases hd
    obtain ⟨p, vs, rfl, rfl, g1, g2⟩ := h3
    obtain ⟨G', S', e', l, q⟩ := key p _ h1 (h2 p (by simp)).1 g1
    exact ⟨G', S', e', .lst (.inl q) (g2.mono l (TupLe.rf _))⟩
  | dic t kvs => cases hd
  | feed f => cases hd
  | tr T =>
    have hin : ∀ a ∈ fp, H a = none := fun a ha => (h2 a ha).1
    let N' : Hp := fun a => if a ∈ fp then H' a else G.N a
    have nN : ∀ a o, G.N a = some o → a ∉ fp := fun a o e z => by
      have := (S.w.new a o e).1
      rw [hin a z] at this; cases this
    have g : Grow G H N' H' [] := by
      have k : ∀ a o, H a = some o → H' a = some o := fun a o e => by
        rw [h1 a fun z => by rw [hin a z] at e; cases e]; exact e
      refine ⟨fun a o e _ => k a o e, fun _ z => absurd z (by simp), fun a xs e => k _ _ e, fun a o e => ?_, fun a o e => ?_⟩
      · show (if a ∈ fp then H' a else G.N a) = some o
        rw [if_neg (nN a o e)]; exact e
      · have e : (if a ∈ fp then H' a else G.N a) = some o := e
        by_cases z : a ∈ fp
        · rw [if_pos z] at e; exact ⟨e, .inr (hin a z)⟩
        · rw [if_neg z] at e; exact ⟨k _ _ (S.w.new a o e).1, .inl e⟩
    obtain ⟨S2, e2⟩ := S.grow g
    refine ⟨_, S2, e2, TreOk.dn e2.n h3.1 (fun a ha o ho => ?_) d hd⟩
    show (if a ∈ fp then H' a else G.N a) = some o
    rw [if_pos ha]; exact ho
  | mul t l => cases hd
theorem Sta.freezeC {K : PySem.W.Frag} {G : Gh} {H : Hp} {σ : St} {Γ : List Sl} {c : Cl} {d : PyData} (s : Sta K G H σ Γ) (i : Nat) (hi : Γ[i]? = some (.own c)) (hd : frzC c = some d) : ∃ G', Sta K G' H σ (Γ.set i (.dat true d)) ∧ Ext G H G' H := by
  obtain ⟨v, H', h1, S1, e1, n⟩ := s.releaseC i hi
  obtain ⟨G', S2, e2, d2⟩ := n.frz S1 hd
  have S3 := S2.put i d2
  have hs : σ.set i (some v) = σ := by
    apply List.ext_getElem?
    intro j
    by_cases hj : j = i
    · subst hj
      have hl : j < σ.length := (List.getElem?_eq_some_iff.mp h1).1
      rw [List.getElem?_set_self hl, h1]
    · rw [List.getElem?_set_ne (Ne.symm hj)]
  rw [hs, List.set_set] at S3
  exact ⟨G', S3, ⟨e2.h0, e2.p, e2.i, e2.e, e2.n, e2.nn, TupLe.rf _, S3.w⟩⟩
abbrev DC := List Sl → R (Cl × List Sl)
inductive Rs where
  | d (x : PyData)
  | c (x : Cl)
inductive Fw where
  | nx
  | bk
  | ct
  | rt (r : Rs)
abbrev DS := List Sl → R (Fw × List Sl)
def rdC (X : Cx) (W : WX) (Γ : List Sl) (m : R (Cl × List Sl)) : TE := fun σ H Q => ∃ G, Sta X.K G H σ Γ ∧ Pst X W G H σ m fun r G' H' => ∀ v H2, Sta X.K G' H' σ r.2 → NewC X.K (rg G' true) H' r.1 v H2 → Q v H2
def CC (X : Cx) (W : WX) (e : Expr) (f : DC) : Prop := ∀ Γ, PE X e (rdC X W Γ (f Γ))
def FinU (K : PySem.W.Frag) (G : Gh) (H : Hp) (D : Ends) (Γ : List Sl) : Fw → Prop
  | .nx => ∀ σ, Sta K G H σ Γ → D.nx σ H
  | .bk => ∀ σ, Sta K G H σ Γ → D.bk σ H
  | .ct => ∀ σ, Sta K G H σ Γ → D.ct σ H
  | .rt (.d x) => ∀ σ v, Sta K G H σ Γ → Dn K (rg G true) H v x → D.rt v H
  | .rt (.c c) => ∀ σ v H2, Sta K G H σ Γ → NewC K (rg G true) H c v H2 → D.rt v H2
def rdB (X : Cx) (W : WX) (Γ : List Sl) (m : R (Fw × List Sl)) : TS := fun D σ H => ∃ G, Sta X.K G H σ Γ ∧ Pst X W G H σ m fun z G' H' => FinU X.K G' H' D z.2 z.1
def C1 (X : Cx) (W : WX) (s : Stmt) (f : DS) : Prop := ∀ Γ, PS X s (rdB X W Γ (f Γ))
def CS (X : Cx) (W : WX) (ss : List Stmt) (f : DS) : Prop := ∀ Γ, PSs X ss (rdB X W Γ (f Γ))
theorem ps_imp {X : Cx} {s : Stmt} {t t' : TS} (h : PS X s t) (k : ∀ D σ H, t' D σ H → t D σ H) : PS X s t' := ⟨fun pins s σ H D I z => h.run pins s σ H D I (k D σ H z)⟩
theorem pss_imp {X : Cx} {s : List Stmt} {t t' : TS} (h : PSs X s t) (k : ∀ D σ H, t' D σ H → t D σ H) : PSs X s t' := ⟨fun pins s σ H D I z => h.run pins s σ H D I (k D σ H z)⟩
theorem pss_any {X : Cx} {s : List Stmt} {α : Type} {t : α → TS} (h : ∀ x, PSs X s (t x)) : PSs X s (fun D σ H => ∃ x, t x D σ H) := ⟨fun pins s σ H D I ⟨x, z⟩ => (h x).run pins s σ H D I z⟩
def wipeG (Γ : List Sl) : List Nat → List Sl
  | [] => Γ
  | i :: is => (wipeG Γ is).set i .un
theorem Sta.wipe {K : PySem.W.Frag} {G : Gh} {H : Hp} {σ : St} {Γ : List Sl} (s : Sta K G H σ Γ) : ∀ is : List Nat, Sta K G H σ (wipeG Γ is)
  | [] => s
  | i :: is => (Sta.wipe s is).forget i
theorem pg_imp {X : Cx} {tg : Expr} {t t' : TG} (h : PG X tg t) (k : ∀ v σ H Q, t' v σ H Q → t v σ H Q) : PG X tg t' := ⟨fun pins s σ H v u Q I r z => h.run pins s σ H v u Q I r (k v σ H Q z)⟩
structure ItD (K : PySem.W.Frag) (G : Gh) (H : Hp) (J : It) (ds : List PyData) (fr : Bool) : Prop where
  go : ∀ i G2 H2, i < ds.length → Le G H G2 H2 → J.go i H2
  yl : ∀ i G2 H2 σ Γ v H3, i < ds.length → Le G H G2 H2 → Sta K G2 H2 σ Γ → J.yld i H2 v H3 → ∃ G3 d, ds[i]? = some d ∧ Ext G2 H2 G3 H3 ∧ Sta K G3 H3 σ Γ ∧ Dn K (rg G3 fr) H3 v d
  st : ∀ G2 H2, Le G H G2 H2 → J.stop ds.length H2
theorem pi_imp {X : Cx} {tg it : Expr} {t t' : TI} (h : PI X tg it t) (k : ∀ σ H Q, t' σ H Q → t σ H Q) : PI X tg it t' := ⟨fun pins s σ H Q I z => h.run pins s σ H Q I (k σ H Q z)⟩
theorem Cf0.pg {X : Cx} {W : WX} {sc : Scope} {N : List Str} (C : Cf0 X W sc N) {i : Nat} {x : Str} {p : Pos} (hN : N[i]? = some x) (hv : Sto X sc x) : PG X (.Name x p) (gName i) :=
  pg_name (by rw [C.hN]; exact C.nd) (by rw [C.hN]; exact hN) (by rw [C.hsc]; exact hv.1) (by rw [C.hsc]; exact hv.2)
end PD
set_option Elab.async false
set_option linter.all false
set_option maxRecDepth 100000
set_option maxHeartbeats 4000000
set_option autoImplicit false
namespace PD
open PySem L2
section
variable {X : Cx} {W : WX} {sc : Scope} {N : List Str} {e : Expr} {ss rest : List Stmt} {s : Stmt} {pos : Pos} {f g : DS}
def nL (n : DN) : DC := fun Γ => (n Γ).bind fun z => .val (.lst z.1, z.2)
theorem cc_l {n : DN} (h : CN X W e n) : CC X W e (nL n) := fun Γ => pe_imp (h Γ) fun σ H Q ⟨G, S, p⟩ => ⟨G, S, (Pst.bind p).imp fun z G1 H1 e1 p1 q vs S1 hq hd => p1 G1 H1 (Ext.rf S1.w) _ _ S1 (newc_lst hq hd)⟩
def bNil : DS := fun Γ => .val (.nx, Γ)
def bSeq (f g : DS) : DS := fun Γ => (f Γ).bind fun z => match z.1 with
  | .nx => g z.2
  | w => .val (w, z.2)
theorem cs_nil : CS X W [] bNil := fun Γ => pss_imp pss_nil fun D σ H ⟨G, S, p⟩ => p G H (Ext.rf S.w) σ S
theorem cs_cons (hs : C1 X W s f) (hr : CS X W rest g) : CS X W (s :: rest) (bSeq f g) := fun Γ =>
  pss_imp (pss_cons (hs Γ) (pss_any fun Γ1 => hr Γ1)) fun D σ H ⟨G, S, p⟩ => ⟨G, S, (Pst.bind p).imp fun z G1 H1 e1 p1 => by
    obtain ⟨w, Γ1⟩ := z
    cases w with
    | nx => exact fun σ1 S1 => ⟨Γ1, G1, S1, p1⟩
    | bk => exact p1 G1 H1 (Ext.rf e1.w)
    | ct => exact p1 G1 H1 (Ext.rf e1.w)
    | rt r =>
      have q : FinU X.K G1 H1 D Γ1 (.rt r) := p1 G1 H1 (Ext.rf e1.w)
      cases r with
      | d x => exact q
      | c x => exact q⟩
def bFrz (i : Nat) (g : DS) : DS := fun Γ => match Γ[i]? with
  | some (.own c) => (R.ofO (frzC c)).bind fun d => g (Γ.set i (.dat true d))
  | _ => g Γ
theorem cs_frz (i : Nat) (h : CS X W ss g) : CS X W ss (bFrz i g) := fun Γ => by
  unfold bFrz
  split
  · rename_i c hc
    cases hd : frzC c with
    | none => exact pss_imp (h Γ) fun D σ H ⟨G, S, p⟩ => p.elim
    | some d =>
      exact pss_imp (h _) fun D σ H ⟨G, S, p⟩ => by
        obtain ⟨G2, S2, e2⟩ := S.freezeC i hc hd
        exact ⟨G2, S2, Pst.ext p e2⟩
  · exact h Γ
def asSl : AV → Option Sl
  | .d fr d => some (.dat fr d)
  | _ => none
def bSet (i : Nat) (e : DF) : DS := fun Γ => (e Γ).bind fun z => (R.ofO (asSl z.1)).bind fun s => .val (.nx, z.2.set i s)
theorem c1_set (C : Cf0 X W sc N) (i : Nat) {x : Str} {p' : Pos} {f : DF} (hN : N[i]? = some x) (hv : Sto X sc x) (he : CE X W e f) (hs : swapsWith e (some (.Name x p')) pos.line X.env = pure false := by rfl) : C1 X W (.Assign [.Name x p'] e pos) (bSet i f) := fun Γ => by
  have hx : Loc X.env.scope x := by rw [C.hsc]; exact hv.1
  refine ps_imp (ps_set (i := i) (by rw [C.hN]; exact C.nd) (by rw [C.hN]; exact hN) hx (he Γ) hs (by rw [C.hsc]; exact hv.2)) fun D σ H ⟨G, S, p⟩ => ⟨G, S, (Pst.bind p).imp fun z G1 H1 e1 p1 v S1 a1 => ?_⟩
  obtain ⟨y, Γ1⟩ := z
  cases y with
  | d fr d => exact p1 G1 H1 (Ext.rf S1.w) _ (S1.put i a1)
  | s j => exact p1.elim
def bSetC (i : Nat) (n : DC) : DS := fun Γ => (n Γ).bind fun z => .val (.nx, z.2.set i (.own z.1))
def bExpr (e : DF) : DS := fun Γ => (e Γ).bind fun z => .val (.nx, z.2)
theorem c1_expr {f : DF} (he : CE X W e f) (hs : swapsWith e none pos.line X.env = pure false := by rfl) : C1 X W (.Expr e pos) (bExpr f) := fun Γ =>
  ps_imp (ps_expr (he Γ) hs) fun D σ H ⟨G, S, p⟩ => ⟨G, S, (Pst.bind p).imp fun z G1 H1 e1 p1 v S1 a1 => p1 G1 H1 (Ext.rf S1.w) σ S1⟩
def bRet (e : DF) : DS := fun Γ => (e Γ).bind fun z => (frzA z).bind fun y => match y.1 with
  | .d true d => .val (.rt (.d d), y.2)
  | _ => .bad
theorem frzP {ρ : Type} {G : Gh} {H : Hp} {σ : St} {x : AV} {Γ : List Sl} {v : V} {k : AV × List Sl → R ρ} {P : ρ → Gh → Hp → Prop} (S : Sta X.K G H σ Γ) (hv : AVok X.K G H σ v x) (p : Pst X W G H σ ((frzA (x, Γ)).bind k) P) : ∃ y G', Sta X.K G' H σ y.2 ∧ Ext G H G' H ∧ AVok X.K G' H σ v y.1 ∧ Pst X W G' H σ (k y) P := by
  unfold frzA at p
  split at p
  · rename_i hz; cases hz; exact ⟨_, G, S, Ext.rf S.w, hv, p⟩
  · rename_i d Γ2 hz
    cases hz
    refine ⟨_, G, S, Ext.rf S.w, ?_, p⟩
    cases hf : flat d with
    | false => exact hv
    | true => exact Dn.free hv hf
  · rename_i i Γ2 hz
    cases hz
    split at p
    · rename_i ds hi
      obtain ⟨G2, S2, e2⟩ := S.freeze i hi
      have h2 : (Γ.set i (.dat true (.list ds)))[i]? = some (.dat true (.list ds)) := set_at (List.getElem?_eq_some_iff.mp hi).1
      obtain ⟨A2, T2⟩ := id S2
      obtain ⟨_, w, g1, g2⟩ := T2.sl i _ h2
      have hv : σ[i]? = some (some v) := hv
      rw [hv] at g1
      cases g1
      exact ⟨(.d true (.list ds), Γ.set i (.dat true (.list ds))), G2, S2, e2, g2, Pst.ext p e2⟩
    · exact p.elim
theorem c1_ret {f : DF} (he : CE X W e f) : C1 X W (.Return (some e) pos) (bRet f) := fun Γ =>
  ps_imp (ps_ret (he Γ)) fun D σ H ⟨G, S, p⟩ => ⟨G, S, (Pst.bind p).imp fun z G1 H1 e1 p1 v S1 a1 => by
    obtain ⟨x, Γ1⟩ := z
    obtain ⟨y, G2, S2, e2, a2, p2⟩ := frzP S1 a1 p1
    obtain ⟨y, Γ2⟩ := y
    simp only at p2
    split at p2
    · exact p2 G2 H1 (Ext.rf S2.w) σ v S2 a2
    · exact p2.elim⟩
def bRet0 : DS := fun Γ => .val (.rt (.d .none), Γ)
def bRetC (n : DC) : DS := fun Γ => (n Γ).bind fun z => .val (.rt (.c z.1), z.2)
theorem c1_retC {n : DC} (he : CC X W e n) : C1 X W (.Return (some e) pos) (bRetC n) := fun Γ =>
  ps_imp (ps_ret (he Γ)) fun D σ H ⟨G, S, p⟩ => ⟨G, S, (Pst.bind p).imp fun z G1 H1 e1 p1 v H2 S1 hn => p1 G1 H1 (Ext.rf S1.w) σ v H2 S1 hn⟩
def bRetO (i : Nat) : DS := fun Γ => match Γ[i]? with
  | some (.own c) => .val (.rt (.c c), Γ.set i .un)
  | _ => .bad
theorem c1_retO (C : Cf0 X W sc N) (i : Nat) {x : Str} {p' : Pos} (hN : N[i]? = some x) (hv : visB sc x = true) (hd : (x == ("__debug__" : Str)) = false := by decide +kernel) (hcd : (x == ("__classdict__" : Str)) = false := by decide +kernel) : C1 X W (.Return (some (.Name x p')) pos) (bRetO i) := fun Γ => by
  unfold bRetO
  split
  · rename_i c hc
    refine ps_imp (ps_ret (evp_slot (Γ := Γ) (W := W) C (.inl hc) hN hv hd hcd)) fun D σ H ⟨G, S, p⟩ => ⟨G, S, fun G1 H1 e1 v S1 a1 => ?_⟩
    obtain ⟨w, H2, h1, S2, e2, n2⟩ := S1.releaseC i hc
    have a1 : σ[i]? = some (some v) := a1
    rw [h1] at a1
    cases a1
    exact p G1 H2 (e1.tr e2) σ v H1 S2 n2
  · exact ⟨fun pins s σ H D I ⟨G, S, p⟩ => p.elim⟩
def bIf (c : DT) (f g : DS) : DS := fun Γ => (c Γ).bind fun x => if x.1 then f x.2 else g x.2
theorem c1_if {c : Expr} {a b : List Stmt} {t : DT} (hc : CT X W c t) (ha : CS X W a f) (hb : CS X W b g) : C1 X W (.If c a b pos) (bIf t f g) := fun Γ =>
  ps_imp (ps_if (hc Γ) (pss_any fun Γ1 => ha Γ1) (pss_any fun Γ1 => hb Γ1)) fun D σ H ⟨G, S, p⟩ => ⟨G, S, (Pst.bind p).imp fun z G1 H1 e1 p1 S1 => by
    obtain ⟨z, Γ1⟩ := z
    cases z with
    | true => exact itT ⟨Γ1, G1, S1, p1⟩
    | false => exact itF ⟨Γ1, G1, S1, p1⟩⟩
abbrev DG := Bool → PyData → List Sl → Option (List Sl)
def CG (X : Cx) (tg : Expr) (ts : List Nat) (g : DG) : Prop :=
  PG X tg (fun v σ H Q => ∃ G Γ fr d Γ', Sta X.K G H σ Γ ∧ Dn X.K (rg G fr) H v d ∧ g fr d Γ = some Γ' ∧ ∀ σ', σ'.length = σ.length → (∀ j, j ∉ ts → σ'[j]? = σ[j]?) → Sta X.K G H σ' Γ' → Q σ' H)
def gN (i : Nat) : DG := fun fr d Γ => some (Γ.set i (.dat fr d))
theorem cg_name (C : Cf0 X W sc N) (i : Nat) {x : Str} {p : Pos} (hN : N[i]? = some x) (hv : Sto X sc x) : CG X (.Name x p) [i] (gN i) :=
  pg_imp (C.pg hN hv) fun v σ H Q ⟨G, Γ, fr, d, Γ', S, h, e, k⟩ => by
    cases e
    exact k _ (List.length_set ..) (fun j hj => List.getElem?_set_ne (Ne.symm (by simpa using hj))) (S.put i h)
def gT2 (g1 g2 : DG) : DG := fun fr d Γ => match d with
  | .tuple [a, b] => (g1 fr a Γ).bind fun Γ1 => g2 fr b Γ1
  | _ => none
theorem cg_tup2 (C : Cf X W sc N) {t1 t2 : Expr} {kk : Nat} {p : Pos} {g1 g2 : DG} {ts1 ts2 : List Nat} (h1 : CG X t1 ts1 g1) (h2 : CG X t2 ts2 g2)
    (hn : (assignEach [t1, t2] X.env).length = 2 := by rfl) (hst : (assignEach [t1, t2] X.env).findIdx? (·.1) = none := by rfl) (hs1 : (assignEach [t1, t2] X.env).map (·.2) = assign t1 X.env :: (assignEach [t2] X.env).map (·.2) := by rfl) (hs2 : (assignEach [t2] X.env).map (·.2) = assign t2 X.env :: (assignEach [] X.env).map (·.2) := by rfl) :
    CG X (.Tuple [t1, t2] kk p) (ts1 ++ ts2) (gT2 g1 g2) := by
  refine pg_imp (pg_tup (n := 2) C.calm (pgs_cons h1 (pgs_cons h2 pgs_nil hs2) hs1) hn hst) fun v σ H Q ⟨G, Γ, fr, d, Γ', S, h, e, k⟩ => ?_
  unfold gT2 at e
  split at e
  · rename_i a b
    obtain ⟨q, xs, rfl, hq, hd⟩ := dn_tuple h
    cases hd with
    | cons d1 r1 =>
      cases r1 with
      | cons d2 r2 =>
        cases r2
        cases e1 : g1 fr a Γ with
        | none => rw [e1] at e; cases e
        | some Γ1 =>
          rw [e1] at e
          exact ⟨q, _, rfl, hq, rfl, _, _, rfl, G, Γ, fr, a, Γ1, S, d1, e1, fun σ1 l1 k1 S1 => ⟨_, _, rfl, G, Γ1, fr, b, Γ', S1, d2, e, fun σ2 l2 k2 S2 => ⟨rfl, k _ (l2.trans l1) (fun j hj => (k2 j fun z => hj (by simp [z])).trans (k1 j fun z => hj (by simp [z]))) S2⟩⟩⟩
  · cases e
def gT3 (g1 g2 g3 : DG) : DG := fun fr d Γ => match d with
  | .tuple [a, b, c] => (g1 fr a Γ).bind fun Γ1 => (g2 fr b Γ1).bind fun Γ2 => g3 fr c Γ2
  | _ => none
theorem cg_tup3 (C : Cf X W sc N) {t1 t2 t3 : Expr} {kk : Nat} {p : Pos} {g1 g2 g3 : DG} {ts1 ts2 ts3 : List Nat} (h1 : CG X t1 ts1 g1) (h2 : CG X t2 ts2 g2) (h3 : CG X t3 ts3 g3)
    (hn : (assignEach [t1, t2, t3] X.env).length = 3 := by rfl) (hst : (assignEach [t1, t2, t3] X.env).findIdx? (·.1) = none := by rfl) (hs1 : (assignEach [t1, t2, t3] X.env).map (·.2) = assign t1 X.env :: (assignEach [t2, t3] X.env).map (·.2) := by rfl)
    (hs2 : (assignEach [t2, t3] X.env).map (·.2) = assign t2 X.env :: (assignEach [t3] X.env).map (·.2) := by rfl) (hs3 : (assignEach [t3] X.env).map (·.2) = assign t3 X.env :: (assignEach [] X.env).map (·.2) := by rfl) :
    CG X (.Tuple [t1, t2, t3] kk p) (ts1 ++ ts2 ++ ts3) (gT3 g1 g2 g3) := by
  refine pg_imp (pg_tup (n := 3) C.calm (pgs_cons h1 (pgs_cons h2 (pgs_cons h3 pgs_nil hs3) hs2) hs1) hn hst) fun v σ H Q ⟨G, Γ, fr, d, Γ', S, h, e, k⟩ => ?_
  unfold gT3 at e
  split at e
  · rename_i a b c
    obtain ⟨q, xs, rfl, hq, hd⟩ := dn_tuple h
    cases hd with
    | cons d1 r1 =>
      cases r1 with
      | cons d2 r2 =>
        cases r2 with
        | cons d3 r3 =>
          cases r3
          cases e1 : g1 fr a Γ with
          | none => rw [e1] at e; cases e
          | some Γ1 =>
            rw [e1] at e
            have e : (g2 fr b Γ1).bind (fun Γ2 => g3 fr c Γ2) = some Γ' := e
            cases e2 : g2 fr b Γ1 with
            | none => rw [e2] at e; cases e
            | some Γ2 =>
              rw [e2] at e
              exact ⟨q, _, rfl, hq, rfl, _, _, rfl, G, Γ, fr, a, Γ1, S, d1, e1, fun σ1 l1 k1 S1 => ⟨_, _, rfl, G, Γ1, fr, b, Γ2, S1, d2, e2, fun σ2 l2 k2 S2 => ⟨_, _, rfl, G, Γ2, fr, c, Γ', S2, d3, e, fun σ3 l3 k3 S3 => ⟨rfl, k _ (l3.trans (l2.trans l1)) (fun j hj => (k3 j fun z => hj (by simp [z])).trans ((k2 j fun z => hj (by simp [z])).trans (k1 j fun z => hj (by simp [z])))) S3⟩⟩⟩⟩
  · cases e
def bSetG (g : DG) (e : DF) : DS := fun Γ => (e Γ).bind fun z => match z.1 with
  | .d fr d => (R.ofO (g fr d z.2)).bind fun Γ1 => .val (.nx, Γ1)
  | _ => .bad
theorem c1_setG {tg : Expr} {ts : List Nat} {gg : DG} {f : DF} (hg : CG X tg ts gg) (he : CE X W e f) (hs : swapsWithSole [tg] e pos.line X.env = pure false := by rfl) (hw : swappedStores [tg] e X.env = pure none := by rfl) (h1 : (assignEach [tg] X.env).map (·.2) = [assign tg X.env] := by rfl) : C1 X W (.Assign [tg] e pos) (bSetG gg f) := fun Γ =>
  ps_imp (ps_asg (he Γ) hg hs hw h1) fun D σ H ⟨G, S, p⟩ => ⟨G, S, (Pst.bind p).imp fun z G1 H1 e1 p1 v S1 a1 => by
    obtain ⟨y, Γ1⟩ := z
    cases y with
    | s j => exact p1.elim
    | d fr d =>
      have p1 : Pst X W G1 H1 σ ((R.ofO (gg fr d Γ1)).bind fun Γ1 => (R.val (Fw.nx, Γ1))) (fun z G' H' => FinU X.K G' H' D z.2 z.1) := p1
      cases hz : gg fr d Γ1 with
      | none => rw [hz] at p1; exact p1.elim
      | some Γ2 =>
        rw [hz] at p1
        exact ⟨G1, Γ1, fr, d, Γ2, S1, a1, hz, fun σ' _ _ S' => p1 G1 H1 (Ext.rf S1.w) σ' S'⟩⟩
end
end PD
set_option Elab.async false
set_option linter.all false
set_option maxRecDepth 100000
set_option maxHeartbeats 4000000
set_option autoImplicit false
namespace PD
open PySem L2
theorem itd_list {K : PySem.W.Frag} {G : Gh} {H : Hp} {a : Addr} {xs : List V} {ds : List PyData} {fr : Bool} (h : LsR K (rg G fr) a xs) (hd : DnA K (rg G fr) H xs ds) : ItD K G H (Itl K a) ds fr := by
  have sq : ∀ G2 H2, Le G H G2 H2 → SqL K H2 a xs := fun G2 H2 e => ((h.mono (e.rgl fr)).mono (e.w.rgl fr)).sq
  have hl := hd.length
  refine ⟨fun i G2 H2 hi e => ⟨xs, xs[i], sq G2 H2 e, by simp⟩, fun i G2 H2 σ Γ v H3 hi e S y => ?_, fun G2 H2 e => ⟨xs, sq G2 H2 e, Nat.le_of_eq hl⟩⟩
  obtain ⟨rfl, hy⟩ := y
  obtain ⟨d, h1, h2⟩ := (e.dna hd).get (hy xs (sq G2 _ e))
  exact ⟨G2, d, h1, Ext.rf S.w, S, h2⟩
theorem itd_tup {K : PySem.W.Frag} {G : Gh} {H : Hp} {a : Addr} {xs : List V} {ds : List PyData} {fr : Bool} (h : H a = some (.tup xs)) (hd : DnA K (rg G fr) H xs ds) : ItD K G H (Itt K a) ds fr := by
  have sq : ∀ G2 H2, Le G H G2 H2 → SqT K H2 a xs := fun G2 H2 e => SqT.of (e.t _ _ h)
  have hl := hd.length
  refine ⟨fun i G2 H2 hi e => ⟨xs, xs[i], sq G2 H2 e, by simp⟩, fun i G2 H2 σ Γ v H3 hi e S y => ?_, fun G2 H2 e => ⟨xs, sq G2 H2 e, Nat.le_of_eq hl⟩⟩
  obtain ⟨rfl, hy⟩ := y
  obtain ⟨d, h1, h2⟩ := (e.dna hd).get (hy xs (sq G2 _ e))
  exact ⟨G2, d, h1, Ext.rf S.w, S, h2⟩
theorem itd_range {K : PySem.W.Frag} {G : Gh} {H : Hp} {lo : Int} {n : Nat} {ds : List PyData} (hd : ds = (List.range n).map fun i => PyData.int (lo + (i : Nat))) : ItD K G H (Itr lo n) ds true := by
  subst hd
  refine ⟨fun i G2 H2 hi e => by simpa [Itr] using hi, fun i G2 H2 σ Γ v H3 hi e S y => ?_, fun G2 H2 e => by simp [Itr]⟩
  obtain ⟨rfl, rfl⟩ := y
  have hi : i < n := by simpa using hi
  exact ⟨G2, .int (lo + (i : Nat)), by simp [hi], Ext.rf S.w, S, .int _⟩
def rng (lo hi : Int) : List Int := (List.range (hi - lo).toNat).map fun i => lo + (i : Nat)
def cRng (lo hi : Int) : Bool := decide (-(2 ^ 62) ≤ lo ∧ lo < 2 ^ 62 ∧ -(2 ^ 62) ≤ hi ∧ hi < 2 ^ 62)
theorem rng_ds (lo hi : Int) : (rng lo hi).map PyData.int = (List.range (hi - lo).toNat).map fun i => PyData.int (lo + (i : Nat)) := by
  unfold rng
  rw [List.map_map]
  rfl
theorem sta_pair {K : PySem.W.Frag} {G : Gh} {H : Hp} {σ : St} {Γ : List Sl} {T : Addr} {x y : V} {d1 d2 : PyData} {fr : Bool} (S : Sta K G H σ Γ) (hT : H T = none) (h1 : Dn K (rg G fr) H x d1) (h2 : Dn K (rg G fr) H y d2) :
    ∃ G3, Ext G H G3 (upd H T (.tup [x, y])) ∧ Sta K G3 (upd H T (.tup [x, y])) σ Γ ∧ Dn K (rg G3 fr) (upd H T (.tup [x, y])) (.ref T) (.tuple [d1, d2]) := by
  obtain ⟨G3, S3, e3, h3⟩ := S.newTup (ds := [d1, d2]) hT (.cons h1 (.cons h2 .nil))
  exact ⟨G3, e3, S3, h3⟩
def enumD (ds : List PyData) : List PyData := ds.mapIdx fun i d => .tuple [.int (i : Nat), d]
theorem itd_enum {K : PySem.W.Frag} {G : Gh} {H : Hp} {a : Addr} {xs : List V} {ds : List PyData} {fr : Bool} (h : LsR K (rg G fr) a xs) (hd : DnA K (rg G fr) H xs ds) : ItD K G H (Ite K a) (enumD ds) fr := by
  have sq : ∀ G2 H2, Le G H G2 H2 → SqL K H2 a xs := fun G2 H2 e => ((h.mono (e.rgl fr)).mono (e.w.rgl fr)).sq
  have hl := hd.length
  have hl2 : (enumD ds).length = xs.length := by unfold enumD; simp [hl]
  refine ⟨fun i G2 H2 hi e => ⟨xs, xs[i]'(by rw [hl2] at hi; exact hi), sq G2 H2 e, by simp⟩, fun i G2 H2 σ Γ v H3 hi e S y => ?_, fun G2 H2 e => ⟨xs, sq G2 H2 e, by rw [hl2]; exact Nat.le_refl _⟩⟩
  obtain ⟨T, x, rfl, hT, rfl, hy⟩ := y
  obtain ⟨d, h1, h2⟩ := (e.dna hd).get (hy xs (sq G2 _ e))
  obtain ⟨G3, e3, S3, h3⟩ := sta_pair S hT (.int (i : Nat)) h2
  refine ⟨G3, _, ?_, e3, S3, h3⟩
  unfold enumD
  rw [List.getElem?_mapIdx, h1]
  rfl
abbrev DI := List Sl → R ((List PyData × Bool) × List Sl)
def rdIU (X : Cx) (W : WX) (Γ : List Sl) (m : R ((List PyData × Bool) × List Sl)) : TI := fun σ H Q => ∃ G, Sta X.K G H σ Γ ∧ Pst X W G H σ m fun r G' H' => ∀ J, Sta X.K G' H' σ r.2 → ItD X.K G' H' J r.1.1 r.1.2 → Q J H'
def CI (X : Cx) (W : WX) (tg iter : Expr) (f : DI) : Prop := ∀ Γ, PI X tg iter (rdIU X W Γ (f Γ))
section
variable {X : Cx} {W : WX} {sc : Scope} {N : List Str} {e e2 tg iter : Expr} {pos p : Pos} {f g : DF} {k : DA}
theorem pi_no {t : TI} (h : ∀ σ H Q, ¬ t σ H Q) : PI X tg iter t := ⟨fun pins s σ H R I z => (h _ _ _ z).elim⟩
def seqA : AV → Option (List PyData × Bool)
  | .d fr (.list ds) => some (ds, fr)
  | .d fr (.tuple ds) => some (ds, fr)
  | _ => none
def iSeq (f : DF) : DI := fun Γ => (f Γ).bind fun z => (R.ofO (seqA z.1)).bind fun y => .val (y, z.2)
theorem ci_seq (h : CE X W e f) : CI X W tg e (iSeq f) := fun Γ => by
  have h := h Γ
  unfold iSeq
  cases hf : f Γ with
  | bad => exact pi_no fun σ H Q ⟨G, S, q⟩ => q
  | exc x =>
    rw [hf] at h
    exact pi_imp (pi_list h) fun σ H Q ⟨G, S, q⟩ => ⟨G, S, q⟩
  | val z =>
    rw [hf] at h
    obtain ⟨y, Γ1⟩ := z
    cases hy : seqA y with
    | none =>
      refine pi_no fun σ H Q ⟨G, S, q⟩ => ?_
      · have q : Pst X W G H σ ((R.ofO (seqA y)).bind fun y => R.val (y, Γ1)) (fun r G' H' => ∀ J, Sta X.K G' H' σ r.2 → ItD X.K G' H' J r.1.1 r.1.2 → Q J H') := q
        rw [hy] at q
        exact q
    | some w =>
      have key : ∀ {σ H Q}, rdIU X W Γ ((R.val (y, Γ1)).bind fun z => (R.ofO (seqA z.1)).bind fun y => .val (y, z.2)) σ H Q → ∃ G, Sta X.K G H σ Γ ∧ ∀ G' H', Ext G H G' H' → ∀ J, Sta X.K G' H' σ Γ1 → ItD X.K G' H' J w.1 w.2 → Q J H' := fun {σ H Q} ⟨G, S, q⟩ => by
        have q : Pst X W G H σ ((R.ofO (seqA y)).bind fun y => R.val (y, Γ1)) (fun r G' H' => ∀ J, Sta X.K G' H' σ r.2 → ItD X.K G' H' J r.1.1 r.1.2 → Q J H') := q
        rw [hy] at q
        exact ⟨G, S, q⟩
      unfold seqA at hy
      split at hy
      · cases hy
        refine pi_imp (pi_list h) fun σ H Q z => ?_
        obtain ⟨G, S, q⟩ := key z
        refine ⟨G, S, fun G' H' e' v S' a => ?_⟩
        obtain ⟨l, xs, rfl, h1, h2⟩ := dn_list a
        exact ⟨l, rfl, ⟨xs, (h1.mono (S'.w.rgl _)).sq⟩, q G' H' e' _ S' (itd_list h1 h2)⟩
      · cases hy
        refine pi_imp (pi_tup h) fun σ H Q z => ?_
        obtain ⟨G, S, q⟩ := key z
        refine ⟨G, S, fun G' H' e' v S' a => ?_⟩
        obtain ⟨l, xs, rfl, h1, h2⟩ := dn_tupleH a
        exact ⟨l, rfl, ⟨xs, SqT.of h1⟩, q G' H' e' _ S' (itd_tup h1 h2)⟩
      · cases hy
theorem avs_one {K : PySem.W.Frag} {G : Gh} {H : Hp} {σ : St} {vs : List V} {a : AV} (h : AVs K G H σ vs [a]) : ∃ v, vs = [v] ∧ AVok K G H σ v a := by
  cases h with
  | cons h r => cases r; exact ⟨_, rfl, h⟩
theorem avs_two {K : PySem.W.Frag} {G : Gh} {H : Hp} {σ : St} {vs : List V} {a b : AV} (h : AVs K G H σ vs [a, b]) : ∃ v u, vs = [v, u] ∧ AVok K G H σ v a ∧ AVok K G H σ u b := by
  cases h with
  | cons h r =>
    obtain ⟨u, rfl, h2⟩ := avs_one r
    exact ⟨_, u, rfl, h, h2⟩
def intA : AV → Option Int
  | .d _ (.int i) => some i
  | _ => none
theorem intA_ok {K : PySem.W.Frag} {G : Gh} {H : Hp} {σ : St} {v : V} {a : AV} {i : Int} (h : intA a = some i) (hv : AVok K G H σ v a) : v = .int i := by
  unfold intA at h
  split at h
  · cases h; exact dn_int hv
  · cases h
theorem Pst.ofO {G : Gh} {H : Hp} {σ : St} {α τ : Type} {o : Option α} {k : α → R τ} {P : τ → Gh → Hp → Prop} (h : Pst X W G H σ ((R.ofO o).bind k) P) : ∃ x, o = some x ∧ Pst X W G H σ (k x) P := by
  cases o with
  | none => exact h.elim
  | some x => exact ⟨x, rfl, h⟩
theorem Pst.req {G : Gh} {H : Hp} {σ : St} {τ : Type} {c : Bool} {m : R τ} {P : τ → Gh → Hp → Prop} (h : Pst X W G H σ ((R.req c).bind fun _ => m) P) : c = true ∧ Pst X W G H σ m P := by
  cases c with
  | false => exact h.elim
  | true => exact ⟨rfl, h⟩
theorem Pst.gq {G : Gh} {H : Hp} {σ : St} {τ : Type} {c : Bool} {a : τ} {P : τ → Gh → Hp → Prop} (w : Wf G H) (h : Pst X W G H σ (gq c a) P) : c = true ∧ P a G H := by
  obtain ⟨h1, h2⟩ := Pst.req h
  exact ⟨h1, h2 G H (Ext.rf w)⟩
def iRange1 (f : DF) : DI := fun Γ => (f Γ).bind fun z => (R.ofO (intA z.1)).bind fun j => gq (cRng 0 j) (((rng 0 j).map PyData.int, true), z.2)
theorem ci_range1 (C : Cf0 X W sc N) (hg : glB sc "range" = true) (hm : X.mg "range" = none) (ha : CE X W e f) (hst : starEach [e] X.env = [(false, eval e X.env)] := by rfl) : CI X W tg (.Call (.Name "range" p) [e] [] pos) (iRange1 f) := fun Γ =>
  pi_imp (pi_range1 (C.gl hg) hm (pa_cons (ha Γ) pa_nil (by rw [hst]; rfl)) hst) fun σ H Q ⟨G, S, q⟩ => ⟨G, S, (Pst.bind q).imp fun z G1 H1 e1 p1 v S1 av => by
    obtain ⟨j, hj, p1⟩ := Pst.ofO p1
    obtain ⟨c, p1⟩ := Pst.gq S1.w p1
    have c := of_decide_eq_true c
    exact ⟨j, by rw [intA_ok hj av], c.2.2.1, c.2.2.2, p1 _ S1 (by rw [show j.toNat = (j - 0).toNat by simp]; exact itd_range (rng_ds 0 j))⟩⟩
def iRange2 (f g : DF) : DI := fun Γ => (f Γ).bind fun z => (g z.2).bind fun y => (R.ofO (intA z.1)).bind fun i => (R.ofO (intA y.1)).bind fun j => gq (cRng i j) (((rng i j).map PyData.int, true), y.2)
end
end PD
set_option Elab.async false
set_option linter.all false
set_option maxRecDepth 100000
set_option maxHeartbeats 4000000
set_option autoImplicit false
namespace PD
open PySem L2
open Sem (wp)
theorem enumT_new {v : Value} {ob : Obj} {Z : Heap → Prop} (B : Begins v ob Z) :
    Meets (Builtin.«enumerate.__new__» ⟨[.type "enumerate", v], []⟩) (fun _ R s => Z s.heap ∧ R (.ok (.ret (.ref (s.heap.push ob).objs.size)))
      { s with heap := (s.heap.push ob).push { cls := .type "enumerate", data := .fields #[.none, .bool false, .ref s.heap.objs.size, rawInt 0, .none, .none] } }) :=
  .of_wp fun prog w A R s h => by
    obtain ⟨hp, g, d, tk, os⟩ := s
    obtain ⟨z1, z2⟩ := h
    have z3 := sub_enumerate
    have z4 : ∀ {A' : Around} {E : Value → Shared → Prop} {Q : Value → Shared → Prop}, Q (.ref hp.objs.size) ⟨hp.push ob, g, d, tk, os⟩ → wpAny (model prog w) A' (pyIter v) Q E ⟨hp, g, d, tk, os⟩ :=
      fun q => B.iter prog w _ _ ⟨hp, g, d, tk, os⟩ _ z1 q
    wp_walk using z4
    refine wpAny_stack_any fun z5 => wpAny_pure ?_
    split
    · rename_i y _ _ _ _ _
      cases (y == Value.type "enumerate") <;> (wp_walk using z4) <;> exact ⟨_, rfl, z2⟩
    · wp_walk using z4
      exact ⟨_, rfl, z2⟩
theorem enumT_call {prog : Program} {w : World} {A : Around} {E : Value → Shared → Prop} {s : Shared} {v : Value} {ob : Obj} {Z : Heap → Prop} {Q : Value → Shared → Prop} (B : Begins v ob Z) (h1 : Z s.heap)
    (h : ∀ h', IsEnum h' (s.heap.objs.size + 1) s.heap.objs.size 0 .none → h'.get? s.heap.objs.size = some ob → h'.objs.size = s.heap.objs.size + 2 →
      (∀ b o, s.heap.get? b = some o → h'.get? b = some o) → Q (.ref (s.heap.objs.size + 1)) { s with heap := h' }) :
    wpAny (model prog w) A (call (.type "enumerate") [v]) Q E s := by
  refine callType_new F.called_enumerate (by decide) (F.typeCall_enumerate_1 _) (F.newCall_enumerate_1 _) (fun z => F.args_object_init_2 z _) F.entry_enumerate_new (enumT_new B) ⟨h1, ?_⟩
  have hz : (s.heap.push ob).objs.size = s.heap.objs.size + 1 := Heap.size_push ..
  show _ ∧ _
  rw [hz]
  have he : IsEnum ((s.heap.push ob).push { cls := .type "enumerate", data := .fields #[.none, .bool false, .ref s.heap.objs.size, rawInt 0, .none, .none] }) (s.heap.objs.size + 1) s.heap.objs.size 0 .none := by
    have q := Heap.get?_push_size (s.heap.push ob) (o := { cls := .type "enumerate", data := .fields #[.none, .bool false, .ref s.heap.objs.size, rawInt 0, .none, .none] }) rfl
    rw [hz] at q
    exact q
  exact ⟨⟨_, he, rfl⟩, h _ he (Heap.get?_push_of_some _ (Heap.get?_push_size _ B.free)) (by rw [Heap.size_push, hz]) fun b o x => Heap.get?_push_of_some _ (Heap.get?_push_of_some _ x)⟩
def IteT (K : PySem.W.Frag) (a : Addr) : It :=
  ⟨fun i H => ∃ (xs : List V) (x : V), SqT K H a xs ∧ xs[i]? = some x, fun i H v H' => ∃ T x, v = .ref T ∧ H T = none ∧ H' = upd H T (.tup [.int (i : Nat), x]) ∧ ∀ xs, SqT K H a xs → xs[i]? = some x, fun i H => ∃ xs : List V, SqT K H a xs ∧ xs.length ≤ i⟩
theorem turn_enumT {P : Program} {w : World} {K : PySem.W.Frag} {elts : List Expr} {kk : Nat} {tpos : Pos} (a e it : Addr) :
    Turn P w K (.Tuple elts kk tpos) (IteT K a) [e, it] e (fun i h => (∃ old, IsEnum h e it ((i : Nat) : Int) old) ∧ h.IsTupleIter it a i ∧ e ≠ it) where
  mem := by simp
  obj := fun i h st b hb => by
    obtain ⟨⟨old, he⟩, ⟨o, ho, hc, hd⟩, _⟩ := st
    rcases (show b = e ∨ b = it by simpa using hb) with z | z <;> rw [z]
    · exact ⟨_, he, fun v q => nomatch q⟩
    · exact ⟨o, ho, fun v q => by rw [hd] at q; cases q⟩
  keep := fun i h h' st k => ⟨⟨st.1.choose, k e (by simp) _ st.1.choose_spec⟩, st.2.1.at fun o q => k it (by simp) o q, st.2.2⟩
  item := by
    intro X hP hw hK hc i pins s σ H E I hf st hg
    subst hP hw hK
    obtain ⟨⟨old, he⟩, hit, hne⟩ := st
    obtain ⟨xs, x, hq, hx⟩ := hg
    obtain ⟨its, rv, pt, hz⟩ := I.tuple hq
    have pt : s.heap.IsTuple a its.toArray := pt
    obtain ⟨u, hu, ru⟩ := rv.get hx
    have hel : e < s.heap.objs.size := Heap.lt_size he
    have hil : it < s.heap.objs.size := hit.elim fun o q => Heap.lt_size q.1
    have ha1 : a ≠ it := by
      rintro rfl
      obtain ⟨o1, q1, q2, _⟩ := hit
      obtain ⟨o2, q3, q4, _⟩ := pt
      rw [q1] at q3; cases q3
      rw [q2] at q4; exact absurd (Value.type.inj q4) (by decide)
    have ha2 : e ∉ [it, a] := by
      intro z
      rcases (show e = it ∨ e = a by simpa using z) with z | z
      · exact hne z
      · obtain ⟨o2, q3, q4, _⟩ := pt
        rw [← z, he] at q3; cases q3
        exact absurd (Value.type.inj q4) (by decide)
    have D := Draws.tuple (prog := X.prog) (w := X.w) (A := X.A.in1) (I.ok.hd hc) it a ha1 its.toArray
    refine wpAny_pyNext_enum_itemD D he ⟨hit, pt⟩ (i := i) ?_ hne ha2 fun y h' tk hy ho hit' hT hsz hk => ?_
    · have := List.getElem?_eq_some_iff.mp hu
      simpa using this.1
    obtain rfl : y = u := by
      have : its[i]? = some y := by simpa using hy
      rw [hu] at this; cases this; rfl
    refine ⟨_, rfl, wpAny_letOwnedTupleGo_enum (s := { s with heap := h', toks := tk + 1 }) ho fun h'' he' sb => ?_⟩
    have hT2 : h''.get? s.heap.objs.size = some { cls := .type "tuple", data := .seq #[.int i tk, y] } := (sb.2 _ (Nat.ne_of_gt hel)).trans hT
    have new : ObjOk X.prog X.w (upd H s.heap.objs.size (.tup [.int (i : Nat), x])) h'' s.heap.objs.size (.tup [.int (i : Nat), x]) :=
      ⟨by show 2 ≤ sizeLine; decide, [.int i tk, y], .cons ⟨_, rfl⟩ (.cons ru .nil), ⟨_, hT2, rfl, _, rfl⟩⟩
    have I1 : Inv X pins σ (upd H s.heap.objs.size (.tup [.int (i : Nat), x])) { s with heap := h'', toks := tk + 1 } :=
      I.turnedNew (ch := [e, it]) (fun b ob hb q => (sb.2 b (fun z => hb (by simp [z]))).trans (hk b ob (fun z => hb (by simp [z])) (fun z => hb (by simp [z])) q)) hf (Nat.le_refl _) new
    refine ⟨.ref s.heap.objs.size, _, I1, rfl, ⟨_, x, rfl, I.hok.fresh (Nat.le_refl _), rfl, fun ys hy => by rw [I.tuple_inj hy hq]; exact hx⟩, ⟨⟨y, ?_⟩, hit'.1.at fun o q => (sb.2 it (Ne.symm hne)).trans q, hne⟩, fun b hb => ?_⟩
    · rw [show ((i + 1 : Nat) : Int) = (i : Int) + 1 by omega]
      exact he'
    · have hb' : b < s.heap.objs.size := by
        rcases (show b = e ∨ b = it by simpa using hb) with z | z <;> rw [z] <;> assumption
      rw [upd_ne (Nat.ne_of_lt hb')]
      exact (hf b hb).1
  done := by
    intro X hP hw hK hc i pins s σ H E I hf st hg
    subst hP hw hK
    obtain ⟨⟨old, he⟩, hit, hne⟩ := st
    obtain ⟨xs, hq, hx⟩ := hg
    obtain ⟨its, rv, pt, hz⟩ := I.tuple hq
    have pt : s.heap.IsTuple a its.toArray := pt
    obtain ⟨f0, f1, f2, f3, f4, f5⟩ := hf it (by simp)
    have hl := rv.length
    have hT : s.TypeIs (.ref e) "enumerate" := ⟨_, he, rfl⟩
    unfold pyNext
    refine wpAny_bind (wpAny_attempt (wpAny_callSpecial?_slot (name := Str.ofString "__next__") hT F.slot_enumerate_next (wpAny_call_entry F.slot_enumerate_next hT F.entry_enumerate_next ?_ (F.args_enumerate_next_1 _))))
    show wpAny _ _ (PySem.field (.ref e) 2 >>= _) _ _ _
    refine wpAny_bind (wpAny_field he rfl (x := .ref it) rfl ?_)
    refine wpAny_bind (wpAny_nextOf_tuple_end (I.ok.hd hc) hit pt (by simp; omega) fun h' x eb hx' => ?_)
    obtain ⟨o, ho, hcl⟩ := hx'
    refine wpAny_bind (wpAny_isInstance (T := "StopIteration") (b := true) ⟨o, ho, hcl⟩ isSubtype_stop ?_)
    exact wpAny_pure ⟨rfl, I.turned (t' := s.toks) (fun b o hb q => eb b o hb q) f0 f1 f3 f4 f5⟩
  self := fun A i s Q E st h => let ⟨⟨_, he⟩, _⟩ := st; wpAny_pyIter_enum he h
theorem pi_enumT {X : Cx} {e : Expr} {ta : TA} {p pos tpos : Pos} {elts : List Expr} {kk : Nat} (hg : Gl X "enumerate") (hm : X.mg "enumerate" = none) (ha : PA X [e] ta) (hs : starEach [e] X.env = [(false, eval e X.env)] := by rfl) :
    PI X (.Tuple elts kk tpos) (.Call (.Name "enumerate" p) [e] [] pos) (fun σ H R => ta σ H fun vs H1 => ∃ a xs, vs = [.ref a] ∧ SqT X.K H1 a xs ∧ R (IteT X.K a) H1) := by
  refine ⟨fun pins s σ H R I h => ?_⟩
  refine PyProof.Rows.Call_ (ld_blt I hg hm (show bootBuiltins "enumerate" = some (.type "enumerate") by kernel_rfl) (PyProof.Rows.callWith_type1 (thn (ha.run pos pins s σ H _ I h) fun us s1 ⟨vs, H1, I1, r1, q1⟩ => ?_) hs rfl))
  obtain ⟨a, xs, ex, hq, q⟩ := q1
  subst ex
  cases r1 with
  | cons r rr =>
    cases rr
    cases r
    obtain ⟨its, rv, pt, hz⟩ := I1.tuple hq
    refine enumT_call (begins_tuple a its.toArray) pt fun h' he hit hsz hk => wpAny_pyIter_enum he ?_
    have I2 : Inv X pins σ H1 { s1 with heap := h' } := I1.kept (t' := s1.toks) hk
    refine ⟨s1.heap.objs.size + 1, [s1.heap.objs.size + 1, s1.heap.objs.size], _, _, H1, rfl, I2, turn_enumT a (s1.heap.objs.size + 1) s1.heap.objs.size, ⟨⟨.none, he⟩, ⟨_, hit, rfl, rfl⟩, Nat.succ_ne_self _⟩, fun b hb => ?_, q⟩
    have hle : s1.heap.objs.size ≤ b := by
      rcases (show b = s1.heap.objs.size + 1 ∨ b = s1.heap.objs.size by simpa using hb) with z | z <;> rw [z]
      · exact Nat.le_add_right _ _
      · exact Nat.le_refl _
    exact I1.fpOk hle (I1.hok.fresh hle)
theorem itd_enumT {K : PySem.W.Frag} {G : Gh} {H : Hp} {a : Addr} {xs : List V} {ds : List PyData} {fr : Bool} (h : H a = some (.tup xs)) (hd : DnA K (rg G fr) H xs ds) : ItD K G H (IteT K a) (enumD ds) fr := by
  have sq : ∀ G2 H2, Le G H G2 H2 → SqT K H2 a xs := fun G2 H2 e => SqT.of (e.t _ _ h)
  have hl := hd.length
  have hl2 : (enumD ds).length = xs.length := by unfold enumD; simp [hl]
  refine ⟨fun i G2 H2 hi e => ⟨xs, xs[i]'(by rw [hl2] at hi; exact hi), sq G2 H2 e, by simp⟩, fun i G2 H2 σ Γ v H3 hi e S y => ?_, fun G2 H2 e => ⟨xs, sq G2 H2 e, by rw [hl2]; exact Nat.le_refl _⟩⟩
  obtain ⟨T, x, rfl, hT, rfl, hy⟩ := y
  obtain ⟨d, h1, h2⟩ := (e.dna hd).get (hy xs (sq G2 _ e))
  obtain ⟨G3, e3, S3, h3⟩ := sta_pair S hT (.int (i : Nat)) h2
  refine ⟨G3, _, ?_, e3, S3, h3⟩
  unfold enumD
  rw [List.getElem?_mapIdx, h1]
  rfl
section
variable {X : Cx} {W : WX} {sc : Scope} {N : List Str} {e e2 tg iter : Expr} {pos p : Pos} {f g : DF} {k : DA}
def iEnum (f : DF) : DI := fun Γ => (f Γ).bind fun z => (R.ofO (seqA z.1)).bind fun y => .val ((enumD y.1, y.2), z.2)
theorem ci_enum (C : Cf0 X W sc N) {elts : List Expr} {kk : Nat} {tpos : Pos} (hg : glB sc "enumerate" = true) (hm : X.mg "enumerate" = none) (h : CE X W e f) (hst : starEach [e] X.env = [(false, eval e X.env)] := by rfl) : CI X W (.Tuple elts kk tpos) (.Call (.Name "enumerate" p) [e] [] pos) (iEnum f) := fun Γ => by
  have h := h Γ
  unfold iEnum
  cases hf : f Γ with
  | bad => exact pi_no fun σ H Q ⟨G, S, q⟩ => q
  | exc x =>
    rw [hf] at h
    exact pi_imp (pi_enum (C.gl hg) hm (pa_cons h pa_nil (by rw [hst]; rfl)) hst) fun σ H Q ⟨G, S, q⟩ => ⟨G, S, q⟩
  | val z =>
    rw [hf] at h
    obtain ⟨y, Γ1⟩ := z
    cases hy : seqA y with
    | none =>
      refine pi_no fun σ H Q ⟨G, S, q⟩ => ?_
      · obtain ⟨_, hq, _⟩ := Pst.ofO (show Pst X W G H σ ((R.ofO (seqA y)).bind fun y => R.val ((enumD y.1, y.2), Γ1)) _ from q)
        rw [hy] at hq
        cases hq
    | some w =>
      have key : ∀ {σ H Q}, rdIU X W Γ ((R.val (y, Γ1)).bind fun z => (R.ofO (seqA z.1)).bind fun y => .val ((enumD y.1, y.2), z.2)) σ H Q → ∃ G, Sta X.K G H σ Γ ∧ ∀ G' H', Ext G H G' H' → ∀ J, Sta X.K G' H' σ Γ1 → ItD X.K G' H' J (enumD w.1) w.2 → Q J H' := fun {σ H Q} ⟨G, S, q⟩ => by
        obtain ⟨_, hq, q⟩ := Pst.ofO (show Pst X W G H σ ((R.ofO (seqA y)).bind fun y => R.val ((enumD y.1, y.2), Γ1)) _ from q)
        rw [hy] at hq
        cases hq
        exact ⟨G, S, q⟩
      unfold seqA at hy
      split at hy
      · cases hy
        refine pi_imp (pi_enum (C.gl hg) hm (pa_cons h pa_nil (by rw [hst]; rfl)) hst) fun σ H Q z => ?_
        obtain ⟨G, S, q⟩ := key z
        refine ⟨G, S, fun G' H' e' v S' a => ?_⟩
        obtain ⟨l, xs, rfl, h1, h2⟩ := dn_list a
        exact ⟨l, xs, rfl, (h1.mono (S'.w.rgl _)).sq, q G' H' e' _ S' (itd_enum h1 h2)⟩
      · cases hy
        refine pi_imp (pi_enumT (C.gl hg) hm (pa_cons h pa_nil (by rw [hst]; rfl)) hst) fun σ H Q z => ?_
        obtain ⟨G, S, q⟩ := key z
        refine ⟨G, S, fun G' H' e' v S' a => ?_⟩
        obtain ⟨l, xs, rfl, h1, h2⟩ := dn_tupleH a
        exact ⟨l, xs, rfl, SqT.of h1, q G' H' e' _ S' (itd_enumT h1 h2)⟩
      · cases hy
def loopU (is : List Nat) (g : DG) (fr : Bool) (b : DS) : List PyData → List Sl → R (Fw × List Sl)
  | [], Γ => .val (.nx, wipeG Γ is)
  | d :: ds, Γ => (R.ofO (g fr d (wipeG Γ is))).bind fun Γ1 => (b Γ1).bind fun z => match z.1 with
    | .nx => loopU is g fr b ds z.2
    | .ct => loopU is g fr b ds z.2
    | .bk => .val (.nx, wipeG z.2 is)
    | .rt r => .val (.rt r, z.2)
def bFor (is : List Nat) (g : DG) (it : DI) (b : DS) : DS := fun Γ => (it Γ).bind fun z => loopU is g z.1.2 b z.1.1 z.2
theorem c1_for (C : Cf X W sc N) (is : List Nat) {body : List Stmt} {it : DI} {ts : List Nat} {gg : DG} {b : DS} (hi : CI X W tg iter it) (hg : CG X tg ts gg) (hb : CS X W body b) (hs : ∀ x, foldedSetIterable iter X.env x = pure x := by intro _; rfl) : C1 X W (.For tg iter body [] pos) (bFor is gg it b) := fun Γ => by
  refine ps_imp (ps_for C.pass C.calm (hi Γ) hg (pss_any fun Γ1 => hb Γ1) hs) fun D σ H ⟨G, S0, q⟩ => ⟨G, S0, (Pst.bind q).imp fun r G1 H1 e1 p1 J S1 I => ?_⟩
  obtain ⟨⟨items, fr⟩, Γ1⟩ := r
  have p1 : Pst X W G1 H1 σ (loopU is gg fr b items Γ1) fun z G' H' => FinU X.K G' H' D z.2 z.1 := p1
  have I : ItD X.K G1 H1 J items fr := I
  let P : Fw × List Sl → Gh → Hp → Prop := fun z G' H' => FinU X.K G' H' D z.2 z.1
  refine ⟨fun i m σ H => m = items.length - i ∧ i ≤ items.length ∧ ∃ G Γ2, Ext G1 H1 G H ∧ Sta X.K G H σ Γ2 ∧ Pst X W G H σ (loopU is gg fr b (items.drop i) Γ2) P, ⟨_, rfl, Nat.zero_le _, G1, Γ1, Ext.rf S1.w, S1, p1⟩, ?_⟩
  rintro i m σ2 H2 ⟨rfl, hi2, G2, Γ2, e2, S2, p2⟩
  by_cases hlt : i < items.length
  · rw [List.drop_eq_getElem_cons hlt] at p2
    unfold loopU at p2
    obtain ⟨Γ3, hg3, p3⟩ := Pst.ofO p2
    refine .inr ⟨I.go i G2 H2 hlt e2.le, fun σ' H' => ∃ G4 Γ4, Ext G1 H1 G4 H' ∧ Sta X.K G4 H' σ' Γ4 ∧ Pst X W G4 H' σ' (loopU is gg fr b (items.drop (i + 1)) Γ4) P, fun σ' H' ⟨G4, Γ4, q1, q2, q3⟩ => ⟨_, ?_, rfl, hlt, G4, Γ4, q1, q2, q3⟩, fun v H3 y => ?_⟩
    · omega
    · obtain ⟨G3, d, hd, e3, S3, dn⟩ := I.yl i G2 H2 σ2 _ v H3 hlt e2.le S2 y
      have hx : d = items[i] := by
        rw [List.getElem?_eq_getElem hlt] at hd
        exact (Option.some.inj hd).symm
      subst hx
      refine ⟨G3, wipeG Γ2 is, fr, items[i], Γ3, S3.wipe is, dn, hg3, fun σ4 _ _ S4 => ⟨Γ3, G3, S4, (Pst.bind (Pst.ext p3 e3)).imp fun z G5 H5 e5 p5 => ?_⟩⟩
      have e15 : Ext G1 H1 G5 H5 := (e2.tr e3).tr e5
      obtain ⟨w, Γ5⟩ := z
      cases w with
      | nx => exact fun σ6 S6 => ⟨G5, Γ5, e15, S6, p5⟩
      | ct => exact fun σ6 S6 => ⟨G5, Γ5, e15, S6, p5⟩
      | bk => exact fun σ6 S6 => p5 G5 H5 (Ext.rf S6.w) σ6 (S6.wipe is)
      | rt r =>
        have q : FinU X.K G5 H5 D Γ5 (.rt r) := p5 G5 H5 (Ext.rf e5.w)
        cases r with
        | d x => exact q
        | c x => exact q
  · have e : i = items.length := by omega
    subst e
    refine .inl ⟨I.st G2 H2 e2.le, ?_⟩
    rw [List.drop_length] at p2
    exact p2 G2 H2 (Ext.rf S2.w) σ2 (S2.wipe is)
def loopW (is : List Nat) (c : DT) (b : DS) : Nat → List Sl → R (Fw × List Sl)
  | 0, _ => .bad
  | n + 1, Γ => (c (wipeG Γ is)).bind fun x => if x.1 then (b x.2).bind fun z => match z.1 with
      | .nx => loopW is c b n z.2
      | .ct => loopW is c b n z.2
      | .bk => .val (.nx, wipeG z.2 is)
      | .rt r => .val (.rt r, z.2)
    else .val (.nx, x.2)
def bWhile (is : List Nat) (fuel : List Sl → Nat) (c : DT) (b : DS) : DS := fun Γ => loopW is c b (fuel Γ) Γ
theorem c1_while (C : Cf0 X W sc N) (is : List Nat) (fuel : List Sl → Nat) {test : Expr} {body : List Stmt} {c : DT} {b : DS} (hc : CT X W test c) (hb : CS X W body b) : C1 X W (.While test body [] pos) (bWhile is fuel c b) := fun Γ => by
  refine ps_imp (ps_while C.pass (pt_any fun Γ1 => hc Γ1) (pss_any fun Γ1 => hb Γ1)) fun D σ H ⟨G1, S1, p1⟩ => ?_
  let P : Fw × List Sl → Gh → Hp → Prop := fun z G' H' => FinU X.K G' H' D z.2 z.1
  let Wh : Nat → St → Hp → Prop := fun m σ H => ∃ G Γ2, Sta X.K G H σ Γ2 ∧ Pst X W G H σ (loopW is c b m Γ2) P
  refine ⟨Wh, ⟨fuel Γ, G1, Γ, S1, p1⟩, ?_⟩
  rintro m σ2 H2 ⟨G2, Γ2, S2, p2⟩
  cases m with
  | zero => exact p2.elim
  | succ m =>
    unfold loopW at p2
    refine ⟨wipeG Γ2 is, G2, S2.wipe is, (Pst.bind p2).imp fun x G3 H3 e3 p3 S3 => ?_⟩
    obtain ⟨z, Γ3⟩ := x
    cases z with
    | false => exact itF (p3 G3 H3 (Ext.rf S3.w) σ2 S3)
    | true =>
      refine itT ⟨Wh m, fun σ' H' h => ⟨m, Nat.lt_succ_self m, h⟩, Γ3, G3, S3, (Pst.bind (show Pst X W G3 H3 σ2 ((b Γ3).bind fun z => match z.1 with
      | .nx => loopW is c b m z.2
      | .ct => loopW is c b m z.2
      | .bk => .val (.nx, wipeG z.2 is)
      | .rt r => .val (.rt r, z.2)) P from p3)).imp fun z G5 H5 e5 p5 => ?_⟩
      obtain ⟨w, Γ5⟩ := z
      cases w with
      | nx => exact fun σ6 S6 => ⟨G5, Γ5, S6, p5⟩
      | ct => exact fun σ6 S6 => ⟨G5, Γ5, S6, p5⟩
      | bk => exact fun σ6 S6 => p5 G5 H5 (Ext.rf S6.w) σ6 (S6.wipe is)
      | rt r =>
        have q : FinU X.K G5 H5 D Γ5 (.rt r) := p5 G5 H5 (Ext.rf e5.w)
        cases r with
        | d x => exact q
        | c x => exact q
end
end PD
set_option Elab.async false
set_option linter.all false
set_option maxRecDepth 100000
set_option maxHeartbeats 4000000
set_option autoImplicit false
namespace PD
open PySem L2
abbrev RN (N : Hp) : Rg := fun a o => N a = some o
def NewIn (B N H H' : Hp) : Prop := ∀ a o, N a = some o → H' a = some o ∧ (H a = none ∨ B a = some o)
inductive Ar where
  | d (x : PyData)
  | n (x : PyData)
  | c (x : Cl)
def Cl.fl (_ : Cl) : Bool := true
structure ArgsU (K : PySem.W.Frag) (H : Hp) (vs : List V) (as : List Ar) (F : Nat → List Addr) (L : List Addr) (B : Hp) : Prop where
  len : vs.length = as.length
  dat : ∀ (i : Nat) (x : PyData), as[i]? = some (Ar.d x) → ∃ v, vs[i]? = some v ∧ Dn K (fun a o => H a = some o ∧ a ∉ L) H v x
  cel : ∀ (i : Nat) (c : Cl), as[i]? = some (Ar.c c) → ∃ v, vs[i]? = some v ∧ c.ok K (RN B) H v (F i)
  emp : ∀ i : Nat, (∀ c, as[i]? ≠ some (Ar.c c)) → F i = []
  all : ∀ i p, p ∈ F i → p ∈ L
  al : ∀ p, p ∈ L → H p ≠ none
  dj : ∀ i j p, p ∈ F i → p ∈ F j → i = j
  nat : ∀ (i : Nat) (x : PyData), as[i]? = some (Ar.n x) → ∃ v, vs[i]? = some v ∧ Dn K (RN B) H v x
  bok : ∀ a o, B a = some o → H a = some o ∧ a ∉ L
structure PostU (K : PySem.W.Frag) (H : Hp) (vs : List V) (F : Nat → List Addr) (L : List Addr) (B : Hp) (H' N : Hp) (Z : List Sl) (F' : Nat → List Addr) : Prop where
  keep : ∀ a o, H a = some o → a ∉ L → H' a = some o
  pal : ∀ a, a ∈ L → H' a ≠ none
  t : TupLe H H'
  new : NewIn B N H H'
  cel : ∀ (i : Nat) (c : Cl), Z[i]? = some (Sl.io c) → ∃ v, vs[i]? = some v ∧ c.ok K (RN N) H' v (F' i)
  al : ∀ i p, p ∈ F' i → H' p ≠ none ∧ N p = none ∧ (p ∈ L ∨ H p = none)
  dj : ∀ i j p, p ∈ F' i → p ∈ F' j → i = j
def RsOk (K : PySem.W.Frag) (N H' : Hp) (Q : VK) : Rs → Prop
  | .d d => ∀ v, Dn K (RN N) H' v d → Q v H'
  | .c c => ∀ v H2, NewC K (RN N) H' c v H2 → Q v H2
def spU (K : PySem.W.Frag) (mg : Str → Option Value) (m : List Ar → R (Rs × List Sl)) : Sp := fun vs H Q E => ∃ as F L B, ArgsU K H vs as F L B ∧ match m as with
  | .bad => False
  | .exc x => ∀ H' N F' C d, PostU K H vs F L B H' N x.st F' → mg x.cls = some (.ref C) → XdOk K (RN N) H' d x.flds → E (.ref C) d H'
  | .val z => ∀ H' N F', PostU K H vs F L B H' N z.2 F' → RsOk K N H' Q z.1
def scD : PyData → Bool
  | .none => true
  | .bool _ => true
  | .int _ => true
  | .str _ => true
  | _ => false
theorem scD_flat {d : PyData} (h : scD d = true) : flat d = true := by cases d <;> first | rfl | cases h
def arS : Ar → Sl
  | .d x => .dat (scD x) x
  | .n x => .dat true x
  | .c c => .io c
def initS (n : Nat) (as : List Ar) : List Sl := as.map arS ++ List.replicate (n - as.length) .un
def cellsAt : List Ar → List Sl → Option (List Sl)
  | [], _ => some []
  | .d _ :: as, _ :: Γ => (cellsAt as Γ).map (.un :: ·)
  | .n _ :: as, _ :: Γ => (cellsAt as Γ).map (.un :: ·)
  | .c _ :: as, .io c :: Γ => (cellsAt as Γ).map (.io c :: ·)
  | _, _ => none
theorem cellsAt_get : ∀ {as : List Ar} {Γ Z : List Sl} {i : Nat} {c : Cl}, cellsAt as Γ = some Z → Z[i]? = some (.io c) → Γ[i]? = some (.io c) ∧ ∃ c0, as[i]? = some (.c c0)
  | [], Γ, Z, i, c, h, hz => by
    cases h
    simp at hz
  | .d x :: as, [], Z, i, c, h, hz => by cases h
  | .d x :: as, g :: Γ, Z, i, c, h, hz => by
    have h : (cellsAt as Γ).map (.un :: ·) = some Z := h
    cases e : cellsAt as Γ with
    | none => rw [e] at h; cases h
    | some Y =>
      rw [e] at h
      cases h
      cases i with
      | zero => simp at hz
      | succ i => exact cellsAt_get (i := i) e (by simpa using hz)
  | .n x :: as, [], Z, i, c, h, hz => by cases h
  | .n x :: as, g :: Γ, Z, i, c, h, hz => by
    have h : (cellsAt as Γ).map (.un :: ·) = some Z := h
    cases e : cellsAt as Γ with
    | none => rw [e] at h; cases h
    | some Y =>
      rw [e] at h
      cases h
      cases i with
      | zero => simp at hz
      | succ i => exact cellsAt_get (i := i) e (by simpa using hz)
  | .c x :: as, [], Z, i, c, h, hz => by cases h
  | .c x :: as, .io q :: Γ, Z, i, c, h, hz => by
    have h : (cellsAt as Γ).map (.io q :: ·) = some Z := h
    cases e : cellsAt as Γ with
    | none => rw [e] at h; cases h
    | some Y =>
      rw [e] at h
      cases h
      cases i with
      | zero => exact ⟨hz, x, rfl⟩
      | succ i => exact cellsAt_get (i := i) e (by simpa using hz)
  | .c x :: as, .un :: Γ, Z, i, c, h, hz => by cases h
  | .c x :: as, .dat _ _ :: Γ, Z, i, c, h, hz => by cases h
  | .c x :: as, .own _ :: Γ, Z, i, c, h, hz => by cases h
def fwR : Fw → Option Rs
  | .nx => some (.d .none)
  | .rt r => some r
  | _ => none
def endB (as : List Ar) : R (Fw × List Sl) → R (Rs × List Sl)
  | .bad => .bad
  | .exc x => (R.ofO (cellsAt as x.st)).bind fun Z => .exc ⟨x.cls, x.flds, Z⟩
  | .val z => (R.ofO (fwR z.1)).bind fun r => (R.ofO (cellsAt as z.2)).bind fun Z => .val (r, Z)
@[irreducible] def runB (n np : Nat) (b : DS) (as : List Ar) : R (Rs × List Sl) := (R.req (as.length == np)).bind fun _ => endB as (b (initS n as))
theorem start_get {N : List Str} {vs : List V} {i : Nat} (h : i < vs.length) : (L2.start N vs)[i]? = (vs.map some)[i]? := by
  unfold L2.start
  rw [List.getElem?_append_left (by simpa using h)]
section
variable {P : Program} {w : World} {K : PySem.W.Frag} {mg : Str → Option Value} {base : Heap} {x qual : Str} {params : Arguments} {body : List Stmt} {scope : Scope} {dvs : List V} {kws : List (Str × V)} {f : Addr} {fd : FuncData} {N ps : List Str} {k : Nat}
structure Here (X : Cx) (W : WX) (P : Program) (w : World) (K : PySem.W.Frag) (mg : Str → Option Value) (base : Heap) (scope : Scope) (N : List Str) (k : Nat) : Prop where
  cf : Cf X W scope N
  prog : X.prog = P
  w : X.w = w
  K : X.K = K
  mg : X.mg = mg
  base : X.base = base
  room : Room k X.A
  fn : ∀ x, X.fn x = true
  stk : X.stack = X.env :: X.outer
  frm : X.env.frame = some X.env.locals
theorem here_of (S : FnScope N ps scope) {cdv : Value} {A : Around} {outer : List Env} {s : Shared} {H : Hp} {E : XK} (hr : Room k (A.deeper (PyProof.Rows.envOfC qual scope s.heap.objs.size f cdv))) :
    Here (cxOf (L2.CX P w) P w K mg base N qual scope f cdv A outer s H E) (fun cls d _ H => E cls d H) P w K mg base scope N k := by
  refine ⟨⟨⟨rfl, rfl, S.nd, takes_of rfl rfl rfl rfl, ?_, passes_of rfl, ?_⟩, rfl⟩, rfl, rfl, rfl, rfl, rfl, hr, fun x => rfl, rfl, rfl⟩
  · have := hr.un
    show (A.deeper _).units + 64 < cLine
    omega
  · have := hr.un
    show (A.deeper _).units + 150 < cLine
    omega
theorem fn_len {np nn : Nat} {b : DS} : ∀ vs H Q E, spU K mg (runB nn np b) vs H Q E → vs.length = np := fun vs H Q E ⟨as, Fp, L, B, A, h⟩ => by
  rw [A.len]
  by_cases e : as.length = np
  · exact e
  · have : (as.length == np) = false := by simpa using e
    unfold runB at h
    rw [this] at h
    exact h.elim
theorem fn_pre {b : DS} (hle : ps.length ≤ N.length) {X : Cx} (eK : X.K = K) (eM : X.mg = mg) {vs : List V} {H : Hp} {Q : VK} {E : XK} (hsp : spU K mg (runB N.length ps.length b) vs H Q E) :
    ∃ Γ, rdB X (fun cls d _ H => E cls d H) Γ (b Γ) { nx := fun _ H' => Q .non H', rt := Q } (L2.start N vs) H := by
  subst eK eM
  have hvl := fn_len vs H Q E hsp
  obtain ⟨as, Fp, L, B, AU, hq⟩ := hsp
  have hal : as.length = ps.length := AU.len.symm.trans hvl
  have hq : match endB as (b (initS N.length as)) with
    | .bad => False
    | .exc x => ∀ H' N F' C d, PostU X.K H vs Fp L B H' N x.st F' → X.mg x.cls = some (.ref C) → XdOk X.K (RN N) H' d x.flds → E (.ref C) d H'
    | .val z => ∀ H' N F', PostU X.K H vs Fp L B H' N z.2 F' → RsOk X.K N H' Q z.1 := by
    unfold runB at hq
    rw [show (as.length == ps.length) = true by simpa using hal] at hq
    exact hq
  refine ⟨initS N.length as, ?_⟩
  let cv : Nat → Option V := fun i => match as[i]? with
    | some (.c _) => vs[i]?
    | _ => none
  let G : Gh := ⟨H, L, cv, B, fun _ => none⟩
  have wf : Wf G H := ⟨fun a o h _ => h, fun a o h => ⟨(AU.bok a o h).1, trivial⟩, fun a h => AU.al a h, fun a h => AU.al a h, fun a o h => (by cases h), fun i p h => by
    have h : cv i = some (.ref p) := h
    simp only [cv] at h
    split at h
    · rename_i c hc
      obtain ⟨v, h1, h2⟩ := AU.cel i c hc
      rw [h1] at h
      cases h
      rcases Cl.root h2 with z | z
      · exact .inl (AU.all i p z)
      · exact .inr (.inr z)
    · cases h⟩
  have hg : RgLe (fun a o => H a = some o ∧ a ∉ L) (rg G false) := fun a o h => .inr h
  have st : Sta X.K G H (L2.start N vs) (initS N.length as) := by
    refine ⟨Fp, wf, ?_, fun i s h => ?_, fun i p h => ⟨AU.al p (AU.all i p h), (by cases q : B p with | none => exact q | some u => exact absurd (AU.all i p h) (AU.bok p u q).2), .inl (AU.all i p h)⟩, fun i p h => rfl, AU.dj, fun i j k ns h1 h2 => ?_⟩
    rotate_right
    · unfold initS at h2
      by_cases hj : j < as.length
      · rw [List.getElem?_append_left (by simpa using hj), List.getElem?_map] at h2
        cases ha : as[j]? with
        | none => rw [ha] at h2; cases h2
        | some y => rw [ha] at h2; cases y <;> cases h2
      · rw [List.getElem?_append_right (by simpa using hj)] at h2
        have := List.eq_of_mem_replicate (List.mem_of_getElem? h2)
        cases this
    · unfold initS L2.start
      simp [AU.len]
    · by_cases hi : i < as.length
      · have hi2 : i < vs.length := by rw [AU.len]; exact hi
        rw [start_get hi2, List.getElem?_map]
        unfold initS at h
        rw [List.getElem?_append_left (by simpa using hi), List.getElem?_map] at h
        cases ha : as[i]? with
        | none => rw [ha] at h; cases h
        | some y =>
          rw [ha] at h
          cases h
          cases y with
          | d x =>
            obtain ⟨v, h1, h2⟩ := AU.dat i x ha
            rw [h1]
            refine ⟨AU.emp i (by rw [ha]; intro c z; cases z), v, rfl, ?_⟩
            cases hx : scD x with
            | true => exact Dn.free h2 (scD_flat hx)
            | false => exact h2.mono hg (TupLe.rf _)
          | n x =>
            obtain ⟨v, h1, h2⟩ := AU.nat i x ha
            rw [h1]
            exact ⟨AU.emp i (by rw [ha]; intro c z; cases z), v, rfl, h2⟩
          | c c =>
            obtain ⟨v, h1, h2⟩ := AU.cel i c ha
            rw [h1]
            refine ⟨v, rfl, ?_, h2⟩
            show cv i = some v
            simp only [cv, ha, h1]
      · unfold initS at h
        rw [List.getElem?_append_right (by simpa using hi)] at h
        have : s = .un := List.eq_of_mem_replicate (List.mem_of_getElem? h)
        subst this
        exact AU.emp i (by rw [List.getElem?_eq_none (by omega)]; intro c z; cases z)
  have post : ∀ G' H' σ' Γ' Z, Ext G H G' H' → Sta X.K G' H' σ' Γ' → cellsAt as Γ' = some Z → ∃ F', PostU X.K H vs Fp L B H' G'.N Z F' := fun G' H' σ' Γ' Z e ⟨A', S'⟩ hz => by
    have h0 : G'.H0 = H := e.h0
    have hP : G'.P = L := e.p
    refine ⟨fun i => match Z[i]? with | some (.io _) => A' i | _ => [], fun a o h hp => e.w.keep a o (by rw [h0]; exact h) (by rw [hP]; exact hp), fun a ha => e.w.pal a (by rw [hP]; exact ha), e.t, fun a o h => ⟨(e.w.new a o h).1, (e.nn a o h).elim .inr .inl⟩, fun i c hc => ?_, fun i p hp => ?_, fun i j p hi hj => ?_⟩
    · obtain ⟨g1, c0, g2⟩ := cellsAt_get hz hc
      obtain ⟨v, q1, q2, q3⟩ := S'.sl i _ g1
      have q2 : G'.I i = some v := q2
      rw [e.i] at q2
      have q2 : cv i = some v := q2
      simp only [cv, g2] at q2
      refine ⟨v, q2, ?_⟩
      simp only [hc]
      exact q3
    · have hp : p ∈ (match Z[i]? with | some (.io _) => A' i | _ => []) := hp
      split at hp
      · rename_i c hc
        obtain ⟨q1, q2, q3⟩ := S'.al i p hp
        refine ⟨q1, q2, ?_⟩
        rw [hP, h0] at q3
        exact q3
      · cases hp
    · have hi : p ∈ (match Z[i]? with | some (.io _) => A' i | _ => []) := hi
      have hj : p ∈ (match Z[j]? with | some (.io _) => A' j | _ => []) := hj
      split at hi
      · split at hj
        · exact S'.dj i j p hi hj
        · cases hj
      · cases hi
  refine ⟨G, st, ?_⟩
  cases hm : b (initS N.length as) with
  | bad => rw [hm] at hq; exact hq
  | exc ex =>
    rw [hm] at hq
    intro G' H' σ' C d e S' g1 g2
    cases hz : cellsAt as ex.st with
    | none =>
      have hq : (match (R.ofO (cellsAt as ex.st)).bind (fun Z => (R.exc ⟨ex.cls, ex.flds, Z⟩ : R (Rs × List Sl))) with | .bad => False | .exc x => _ | .val z => _) := hq
      rw [hz] at hq
      exact hq.elim
    | some Z =>
      have hq : (match (R.ofO (cellsAt as ex.st)).bind (fun Z => (R.exc ⟨ex.cls, ex.flds, Z⟩ : R (Rs × List Sl))) with | .bad => False | .exc x => _ | .val z => _) := hq
      rw [hz] at hq
      obtain ⟨F', hp⟩ := post G' H' σ' ex.st Z e S' hz
      exact hq H' G'.N F' C d hp g1 g2
  | val r =>
    rw [hm] at hq
    intro G' H' e
    obtain ⟨w, Γ'⟩ := r
    have hq : (match (R.ofO (fwR w)).bind (fun r => (R.ofO (cellsAt as Γ')).bind fun Z => (R.val (r, Z) : R (Rs × List Sl))) with | .bad => False | .exc x => _ | .val z => _) := hq
    cases hz : cellsAt as Γ' with
    | none =>
      rw [hz] at hq
      cases hw : fwR w <;> rw [hw] at hq <;> exact hq.elim
    | some Z =>
      rw [hz] at hq
      have fin : ∀ r, fwR w = some r → ∀ σ', Sta X.K G' H' σ' Γ' → RsOk X.K G'.N H' Q r := fun r hr σ' S' => by
        rw [hr] at hq
        obtain ⟨F', hp⟩ := post G' H' σ' Γ' Z e S' hz
        exact hq H' G'.N F' hp
      cases w with
      | nx => exact fun σ' S' => fin _ rfl σ' S' .non .non
      | bk => exact hq.elim
      | ct => exact hq.elim
      | rt r =>
        cases r with
        | d x => exact fun σ' v S' hv => fin _ rfl σ' S' v hv
        | c x => exact fun σ' v H2 S' hn => fin _ rfl σ' S' v H2 hn
theorem fn_u (F : FunD K x qual params body scope dvs kws f fd) (S : FnScope N ps scope) {b : DS} (hle : ps.length ≤ N.length) (hb : ∀ X W, Here X W P w K mg base scope N k → CS X W body b) :
    FnOk P w K mg base (L2.CX P w) (k + 1) f fd ps (spU K mg (runB N.length ps.length b)) :=
  F.ok S fn_len fun cdv A outer s H vs Q E hr hsp => by
    obtain ⟨Γ, h⟩ := fn_pre hle (X := cxOf (L2.CX P w) P w K mg base N qual scope f cdv A outer s H E) rfl rfl hsp
    exact ⟨_, hb _ _ (here_of S hr) Γ, h⟩
end
end PD
set_option Elab.async false
set_option linter.all false
set_option maxRecDepth 100000
set_option maxHeartbeats 4000000
set_option autoImplicit false
namespace PD
open PySem L2
def Clee (X : Cx) (x : Str) (dvs : List V) (sp : Sp) : Prop :=
  ∃ (k : Nat) (f : Addr) (fd : FuncData) (ps : List Str) (ds : List Value), FnOk X.prog X.w X.K X.mg X.base (L2.CX X.prog X.w) k f fd ps sp ∧ Room k X.A ∧ X.mg x = some (.ref f) ∧ PySem.W.keepIn X.K (.ref f) = true ∧ Binds X.K fd ps ds ∧ Vals dvs ds
def jn (N N' : Hp) : Hp := fun a => match N a with
  | some o => some o
  | none => N' a
theorem jn_left {N N' : Hp} {a : Addr} {o : HO} (h : N a = some o) : jn N N' a = some o := by unfold jn; rw [h]
theorem jn_right {N N' : Hp} {a : Addr} (h : N a = none) : jn N N' a = N' a := by unfold jn; rw [h]
theorem jn_cases {N N' : Hp} {a : Addr} {o : HO} (h : jn N N' a = some o) : N a = some o ∨ (N a = none ∧ N' a = some o) := by
  cases q : N a with
  | some u => rw [jn_left q] at h; exact .inl h
  | none => rw [jn_right q] at h; exact .inr ⟨rfl, h⟩
theorem Same.tup {H H' : Hp} (s : Same H H') : TupLe H H' := fun a xs h => s a _ h
theorem grow_call {G : Gh} {H H' N : Hp} (w : Wf G H) (s : Same H H') (n : NewIn G.N N H H') : Grow G H (jn G.N N) H' [] ∧ RgLe (RN N) (RN (jn G.N N)) := by
  refine ⟨⟨fun a o h _ => s a o h, fun _ h => absurd h (by simp), Same.tup s, fun a o h => jn_left h, fun a o h => ?_⟩, fun a o h => ?_⟩
  · rcases jn_cases h with h | ⟨h1, h2⟩
    · exact ⟨s a o (w.new a o h).1, .inl h⟩
    · exact ⟨(n a o h2).1, (n a o h2).2.elim .inr .inl⟩
  · show jn G.N N a = some o
    cases q : G.N a with
    | none => rw [jn_right q]; exact h
    | some u =>
      rcases (n a o h).2 with z | z
      · have := (w.new a u q).1
        rw [z] at this
        cases this
      · exact jn_left z
theorem call_end {K : PySem.W.Frag} {G : Gh} {H H' N' : Hp} {σ : St} {Γ : List Sl} (S : Sta K G H σ Γ) (s : Same H H') (n : NewIn G.N N' H H') :
    ∃ G', Sta K G' H' σ Γ ∧ Ext G H G' H' ∧ RgLe (RN N') (rg G' true) := by
  obtain ⟨g, l⟩ := grow_call S.w s n
  obtain ⟨S', e⟩ := S.grow g
  exact ⟨_, S', e, l⟩
def rdW (Γ : List Sl) (j : Nat) : Option PyData := match Γ[j]? with
  | some (.own (.tr T)) => trD T
  | some (.io (.tr T)) => trD T
  | _ => rdD Γ (.s j)
theorem StaA.rdW {K : PySem.W.Frag} {G : Gh} {H : Hp} {σ : St} {Γ : List Sl} {A : Nat → List Addr} {j : Nat} {x : PyData} {v : V} (S : StaA K G H σ Γ A) (h : PD.rdW Γ j = some x) (hv : σ[j]? = some (some v)) :
    Dn K (fun a o => H a = some o ∧ (G.N a = some o ∨ a ∈ A j ∨ G.E a = some o)) H v x := by
  have l : RgLe (RgN G) (fun a o => H a = some o ∧ (G.N a = some o ∨ a ∈ A j ∨ G.E a = some o)) := fun a o z => ⟨(S.w.new a o z).1, .inl z⟩
  unfold PD.rdW at h
  split at h
  · obtain ⟨u, h1, h2, h3⟩ := S.sl j _ ‹_›
    rw [hv] at h1
    cases h1
    exact TreOk.dn l h3.1 (fun a ha o ho => ⟨ho, .inr (.inl ha)⟩) x h
  · obtain ⟨u, h1, h2, h3⟩ := S.sl j _ ‹_›
    rw [hv] at h1
    cases h1
    exact TreOk.dn l h3.1 (fun a ha o ho => ⟨ho, .inr (.inl ha)⟩) x h
  · unfold rdD at h
    simp only at h
    split at h
    · cases h
      obtain ⟨u, h1, h2, p, vs, rfl, hfp, hp, hd⟩ := S.sl j _ ‹_›
      rw [hv] at h1
      cases h1
      exact .lst (.inl ⟨hp, .inr (.inl (by rw [hfp]; simp))⟩) (hd.mono l (TupLe.rf _))
    · cases h
      obtain ⟨u, h1, h2, p, vs, rfl, hfp, hp, hd⟩ := S.sl j _ ‹_›
      rw [hv] at h1
      cases h1
      exact .lst (.inl ⟨hp, .inr (.inl (by rw [hfp]; simp))⟩) (hd.mono l (TupLe.rf _))
    · cases h
      obtain ⟨_, p, o, h1, h2, h3, h4, h5, q, vs, e, _, h6, h7⟩ := S.sl j _ ‹_›
      rw [hv] at h1
      cases h1
      cases e
      rw [h3] at h6
      cases h6
      exact .lst (.inl ⟨h3, .inr (.inr h4)⟩) (h7.mono l (TupLe.rf _))
    · cases h
theorem Sta.rdW {K : PySem.W.Frag} {G : Gh} {H : Hp} {σ : St} {Γ : List Sl} {j : Nat} {x : PyData} {v : V} (S : Sta K G H σ Γ) (h : PD.rdW Γ j = some x) (hv : σ[j]? = some (some v)) : Dn K (fun a o => H a = some o ∧ a ∉ []) H v x := by
  obtain ⟨A, T⟩ := S
  exact (T.rdW h hv).mono (fun a o z => ⟨z.1, by simp⟩) (TupLe.rf _)
def rdDs (Γ : List Sl) (i : Option Nat) : List AV → Option (List PyData)
  | [] => some []
  | .d _ x :: as => (rdDs Γ i as).map (x :: ·)
  | .s j :: as => if some j = i then none else (rdW Γ j).bind fun x => (rdDs Γ i as).map (x :: ·)
theorem rdDs_ok {K : PySem.W.Frag} {G : Gh} {H : Hp} {σ : St} {Γ : List Sl} {i : Option Nat} {fp : List Addr} (S : Sta K G H σ Γ) (hr : ∀ fr a o, rg G fr a o → a ∉ fp) (hs : ∀ (j : Nat) (x : PyData) (v : V), some j ≠ i → rdW Γ j = some x → σ[j]? = some (some v) → Dn K (fun a o => H a = some o ∧ a ∉ fp) H v x) :
    ∀ {as : List AV} {ds : List PyData} {vs : List V}, rdDs Γ i as = some ds → AVs K G H σ vs as → DnA K (fun a o => H a = some o ∧ a ∉ fp) H vs ds
  | [], _, _, h, .nil => by cases h; exact .nil
  | .d fr x :: as, ds, _, h, .cons q r => by
    have h : (rdDs Γ i as).map (x :: ·) = some ds := h
    cases e : rdDs Γ i as with
    | none => rw [e] at h; cases h
    | some xs =>
      rw [e] at h
      cases h
      exact .cons (Dn.mono (fun b o z => ⟨S.w.rgl fr b o z, hr fr b o z⟩) (TupLe.rf _) q) (rdDs_ok S hr hs e r)
  | .s j :: as, ds, _, h, .cons (v := v) q r => by
    unfold rdDs at h
    split at h
    · cases h
    · rename_i hj
      cases e1 : rdW Γ j with
      | none => rw [e1] at h; cases h
      | some x =>
        rw [e1] at h
        have h : (rdDs Γ i as).map (x :: ·) = some ds := h
        cases e : rdDs Γ i as with
        | none => rw [e] at h; cases h
        | some xs =>
          rw [e] at h
          cases h
          exact .cons (hs j x v hj e1 q) (rdDs_ok S hr hs e r)
theorem dna_at {K : PySem.W.Frag} {G : Rg} {H : Hp} {vs : List V} {ds : List PyData} {i : Nat} {x : PyData} (h : DnA K G H vs ds) (hx : (ds.map Ar.d)[i]? = some (.d x)) : ∃ v, vs[i]? = some v ∧ Dn K G H v x := by
  rw [List.getElem?_map] at hx
  cases e : ds[i]? with
  | none => rw [e] at hx; cases hx
  | some y =>
    rw [e] at hx
    cases hx
    exact h.get' e
theorem argsD {K : PySem.W.Frag} {H : Hp} {vs : List V} {ds : List PyData} (h : DnA K (fun a o => H a = some o ∧ a ∉ []) H vs ds) {B : Hp} (hB : ∀ a o, B a = some o → H a = some o) : ArgsU K H vs (ds.map Ar.d) (fun _ => []) [] B where
  len := by rw [List.length_map]; exact h.length
  dat := fun i x hx => dna_at h hx
  cel := fun i c hc => by
    rw [List.getElem?_map] at hc
    cases e : ds[i]? <;> rw [e] at hc <;> cases hc
  emp := fun _ _ => rfl
  all := fun _ _ h => h
  al := fun p h => absurd h (by simp)
  dj := fun i j p h => absurd h (by simp)
  nat := fun i x hx => by
    rw [List.getElem?_map] at hx
    cases e : ds[i]? <;> rw [e] at hx <;> cases hx
  bok := fun a o h => ⟨hB a o h, by simp⟩
def R.atX {α : Type} (Γ : List Sl) : R α → R α
  | .exc x => .exc ⟨x.cls, x.flds, Γ⟩
  | m => m
section
variable {X : Cx} {W : WX} {sc : Scope} {N : List Str} {x : Str} {e : Expr} {es : List Expr} {p pos : Pos} {k : DA} {dvs : List V} {dds : List PyData} {m : List Ar → R (Rs × List Sl)}
theorem callD_core {Γ : List Sl} {G : Gh} {H : Hp} {σ : St} {as : List AV} {ds : List PyData} {vs : List V} {Q : VK} (hdv : ∀ G H, DnA X.K G H dvs dds) (S : Sta X.K G H σ Γ) (av : AVs X.K G H σ vs as) (hd : rdDs Γ none as = some ds)
    (hp : Pst X W G H σ ((m ((ds ++ dds).map Ar.d)).atX Γ) fun z G' H' => Sta X.K G' H' σ Γ → RsOk X.K G'.N H' Q z.1) : spU X.K X.mg m (vs ++ dvs) H Q (fun cls d H => W cls d σ H) := by
  have h1 : DnA X.K (fun a o => H a = some o ∧ a ∉ []) H vs ds := rdDs_ok (i := none) (fp := []) S (fun _ _ _ _ => by simp) (fun _ _ _ _ hr hv => S.rdW hr hv) hd av
  refine ⟨_, _, _, G.N, argsD (h1.append (hdv _ _)) (fun a o h => (S.w.new a o h).1), ?_⟩
  cases hm : m ((ds ++ dds).map Ar.d) with
  | bad => rw [hm] at hp; exact hp
  | exc y =>
    rw [hm] at hp
    intro H' N' F' C d P g1 g2
    obtain ⟨G', S', e', l⟩ := call_end S (fun a o h => P.keep a o h (by simp)) P.new
    refine hp G' H' σ C d e' S' g1 ?_
    rcases g2 with ⟨a, fs, q1, q2, q3, q4⟩ | q
    · exact .inl ⟨a, fs, q1, l _ _ q2, q3, q4.mono l (TupLe.rf _)⟩
    · exact .inr q
  | val z =>
    rw [hm] at hp
    intro H' N' F' P
    obtain ⟨G', S', e', l⟩ := call_end S (fun a o h => P.keep a o h (by simp)) P.new
    have q := hp G' H' e' S'
    cases hz : z.1 with
    | d y => rw [hz] at q; exact fun v hv => q v (hv.mono l (TupLe.rf _))
    | c y => rw [hz] at q; exact fun v H2 ⟨fp, n1, n2, n3⟩ => q v H2 ⟨fp, n1, n2, Cl.mono n3 l (fun _ _ => rfl) (TupLe.rf _)⟩
def rsD : Rs → Option PyData
  | .d x => some x
  | _ => none
end
end PD
set_option Elab.async false
set_option linter.all false
set_option maxRecDepth 100000
set_option maxHeartbeats 4000000
set_option autoImplicit false
namespace PD
open PySem L2
theorem Sta.cellU {K : PySem.W.Frag} {G : Gh} {H : Hp} {σ : St} {Γ : List Sl} {c : Cl} (S : Sta K G H σ Γ) (i : Nat) (io : Bool) (hi : Γ[i]? = some (if io then .io c else .own c)) :
    ∃ v fp, σ[i]? = some (some v) ∧ c.ok K (RgN G) H v fp ∧ (∀ p ∈ fp, H p ≠ none) ∧ (∀ fr a o, rg G fr a o → a ∉ fp) ∧ (∀ (j : Nat) (x : PyData) (u : V), j ≠ i → PD.rdW Γ j = some x → σ[j]? = some (some u) → Dn K (fun a o => H a = some o ∧ a ∉ fp) H u x) ∧
      ∀ H' N' fp' c', (∀ a o, H a = some o → a ∉ fp → H' a = some o) → (∀ a ∈ fp, H' a ≠ none) → TupLe H H' → NewIn G.N N' H H' → c'.ok K (RN N') H' v fp' → (∀ p ∈ fp', H' p ≠ none ∧ N' p = none ∧ (p ∈ fp ∨ H p = none)) →
        ∃ G', Sta K G' H' σ (Γ.set i (if io then .io c' else .own c')) ∧ Ext G H G' H' ∧ RgLe (RN N') (rg G' true) := by
  obtain ⟨A, S⟩ := S
  have key : ∃ v, σ[i]? = some (some v) ∧ c.ok K (RgN G) H v (A i) ∧ (io = true → G.I i = some v) ∧ (io = false → ∀ p ∈ A i, G.H0 p = none) := by
    cases io with
    | true =>
      obtain ⟨v, h1, h2, h3⟩ := S.sl i _ hi
      exact ⟨v, h1, h3, fun _ => h2, fun h => by cases h⟩
    | false =>
      obtain ⟨v, h1, h2, h3⟩ := S.sl i _ hi
      exact ⟨v, h1, h3, fun h => absurd h (by simp), fun _ => h2⟩
  obtain ⟨v, h1, h2, h3, h4⟩ := key
  refine ⟨v, A i, h1, h2, fun p hp => (S.al i p hp).1, fun fr a o h hp => ?_, fun j x u hj hr hu => ?_, fun H' N' fp' c' k1 k2 t n ok f => ?_⟩
  · obtain ⟨_, q1, q2⟩ := S.al i a hp
    cases fr with
    | true =>
      have h : G.N a = some o := h
      rw [q1] at h; cases h
    | false =>
      rcases h with h | ⟨h, h'⟩
      · rw [q1] at h; cases h
      · rcases q2 with q2 | q2
        · exact h' q2
        · rw [q2] at h; cases h
  · refine (S.rdW hr hu).mono (fun a o z => ⟨z.1, fun hp => ?_⟩) (TupLe.rf _)
    rcases z.2 with z | z | z
    · rw [(S.al i a hp).2.1] at z; cases z
    · exact hj (S.dj j i a z hp)
    · rw [S.ae i a hp] at z; cases z
  · have g : Grow G H (jn G.N N') H' (A i) := by
      refine ⟨k1, k2, t, fun a o h => jn_left h, fun a o h => ?_⟩
      rcases jn_cases h with h | ⟨_, h⟩
      · refine ⟨k1 a o (S.w.new a o h).1 fun hp => ?_, .inl h⟩
        rw [(S.al i a hp).2.1] at h; cases h
      · exact ⟨(n a o h).1, (n a o h).2.elim .inr .inl⟩
    have l : RgLe (RN N') (RN (jn G.N N')) := fun a o h => by
      show jn G.N N' a = some o
      cases q : G.N a with
      | none => rw [jn_right q]; exact h
      | some u =>
        rcases (n a o h).2 with z | z
        · have := (S.w.new a u q).1
          rw [z] at this
          cases this
        · exact jn_left z
    have f2 : ∀ p ∈ fp', H' p ≠ none ∧ jn G.N N' p = none ∧ (p ∈ A i ∨ H p = none) := fun p hp => by
      obtain ⟨q1, q2, q3⟩ := f p hp
      refine ⟨q1, ?_, q3⟩
      have : G.N p = none := by
        rcases q3 with q3 | q3
        · exact (S.al i p q3).2.1
        · exact (S.w.fresh q3).1
      rw [jn_right this]
      exact q2
    obtain ⟨S', e⟩ := S.step (i := i) (fp' := fp') (s' := if io then .io c' else .own c') (σ' := σ) g (fun p hp => hp) (fun j hj => rfl) rfl (fun hlt => by
      cases io with
      | true => exact ⟨v, h1, h3 rfl, Cl.mono ok l (fun _ _ => rfl) (TupLe.rf _)⟩
      | false =>
        refine ⟨v, h1, fun p hp => ?_, Cl.mono ok l (fun _ _ => rfl) (TupLe.rf _)⟩
        rcases (f p hp).2.2 with q | q
        · exact h4 rfl p q
        · exact (S.w.fresh q).2.1) f2
    exact ⟨_, S', e, l⟩
def cellAt (Γ : List Sl) (i : Nat) : Option (Bool × Cl) := match Γ[i]? with
  | some (.own c) => some (false, c)
  | some (.io c) => some (true, c)
  | _ => none
theorem cellAt_ok {Γ : List Sl} {i : Nat} {z : Bool × Cl} (h : cellAt Γ i = some z) : Γ[i]? = some (if z.1 then .io z.2 else .own z.2) := by
  unfold cellAt at h
  split at h
  · cases h; exact ‹_›
  · cases h; exact ‹_›
  · cases h
def pickC (n : Nat) (as : List AV) : Option Nat := match as[n]? with
  | some (.s i) => some i
  | _ => none
def insC (n : Nat) (c : Cl) (ds : List PyData) : List Ar := (ds.take n).map Ar.d ++ .c c :: (ds.drop n).map Ar.d
def ioAt (n : Nat) (Z : List Sl) : Option Cl := match Z[n]? with
  | some (.io c) => some c
  | _ => none
theorem ioAt_ok {n : Nat} {Z : List Sl} {c : Cl} (h : ioAt n Z = some c) : Z[n]? = some (.io c) := by
  unfold ioAt at h
  split at h
  · cases h; exact ‹_›
  · cases h
def R.atC (n : Nat) (Γ : List Sl) (i : Nat) (io : Bool) : R (Rs × List Sl) → R (Rs × List Sl)
  | .bad => .bad
  | .exc x => (R.ofO (ioAt n x.st)).bind fun c => .exc ⟨x.cls, x.flds, Γ.set i (mkS io c)⟩
  | .val z => (R.ofO (ioAt n z.2)).bind fun c => .val (z.1, Γ.set i (mkS io c))
theorem avs_erase {K : PySem.W.Frag} {G : Gh} {H : Hp} {σ : St} : ∀ {n i : Nat} {as : List AV} {vs : List V}, AVs K G H σ vs as → as[n]? = some (.s i) → ∃ v v1 v2, vs = v1 ++ v :: v2 ∧ v1.length = n ∧ σ[i]? = some (some v) ∧ AVs K G H σ (v1 ++ v2) (as.eraseIdx n)
  | 0, i, _, _, .cons (v := v) (vs := vs) h r, e => by
    cases e
    exact ⟨v, [], vs, rfl, rfl, h, r⟩
  | n + 1, i, _, _, .cons (v := u) h r, e => by
    obtain ⟨v, v1, v2, rfl, h1, h2, h3⟩ := avs_erase (n := n) r (by simpa using e)
    exact ⟨v, u :: v1, v2, rfl, by simp [h1], h2, .cons h h3⟩
  | _, _, _, _, .nil, e => by simp at e
theorem dna_split {K : PySem.W.Frag} {G : Rg} {H : Hp} : ∀ {v1 v2 : List V} {ds : List PyData}, DnA K G H (v1 ++ v2) ds → DnA K G H v1 (ds.take v1.length) ∧ DnA K G H v2 (ds.drop v1.length)
  | [], v2, ds, h => ⟨.nil, h⟩
  | v :: v1, v2, _, .cons h r => by
    obtain ⟨q1, q2⟩ := dna_split (v1 := v1) r
    exact ⟨.cons h q1, q2⟩
theorem argsC {K : PySem.W.Frag} {H : Hp} {v1 v2 : List V} {v : V} {ds : List PyData} {c : Cl} {fp : List Addr} (h : DnA K (fun a o => H a = some o ∧ a ∉ fp) H (v1 ++ v2) ds) {B : Hp} (hc : c.ok K (RN B) H v fp) (al : ∀ p ∈ fp, H p ≠ none) (hB : ∀ a o, B a = some o → H a = some o ∧ a ∉ fp) :
    ArgsU K H (v1 ++ v :: v2) (insC v1.length c ds) (fun i => if i = v1.length then fp else []) fp B := by
  obtain ⟨h1, h2⟩ := dna_split h
  have l1 := h1.length
  have l2 := h2.length
  have e1 : ((ds.take v1.length).map Ar.d).length = v1.length := by rw [List.length_map]; exact l1.symm
  refine ⟨?_, fun i x hx => ?_, fun i c' hc' => ?_, fun i hi => ?_, fun i p hp => ?_, al, fun i j p hi hj => ?_, fun i x hx => ?_, hB⟩
  · unfold insC
    rw [List.length_append, List.length_append, List.length_cons, List.length_cons, e1, List.length_map, ← l2]
  · unfold insC at hx
    by_cases hlt : i < v1.length
    · rw [List.getElem?_append_left (by rw [e1]; exact hlt)] at hx
      rw [List.getElem?_append_left hlt]
      exact dna_at h1 hx
    · rw [List.getElem?_append_right (by rw [e1]; omega), e1] at hx
      rw [List.getElem?_append_right (by omega)]
      cases hk : i - v1.length with
      | zero => rw [hk] at hx; cases hx
      | succ q =>
        rw [hk, List.getElem?_cons_succ] at hx
        rw [List.getElem?_cons_succ]
        exact dna_at h2 hx
  · unfold insC at hc'
    by_cases hlt : i < v1.length
    · rw [List.getElem?_append_left (by rw [e1]; exact hlt), List.getElem?_map] at hc'
      cases e : (ds.take v1.length)[i]? <;> rw [e] at hc' <;> cases hc'
    · rw [List.getElem?_append_right (by rw [e1]; omega), e1] at hc'
      cases hk : i - v1.length with
      | zero =>
        rw [hk] at hc'
        cases hc'
        have : i = v1.length := by omega
        subst this
        exact ⟨v, by simp, by rw [if_pos rfl]; exact hc⟩
      | succ q =>
        rw [hk, List.getElem?_cons_succ, List.getElem?_map] at hc'
        cases e : (ds.drop v1.length)[q]? <;> rw [e] at hc' <;> cases hc'
  · by_cases e : i = v1.length
    · subst e
      refine absurd ?_ (hi c)
      unfold insC
      rw [List.getElem?_append_right (by rw [e1]; exact Nat.le_refl _), e1, Nat.sub_self]
      rfl
    · exact if_neg e
  · by_cases e : i = v1.length
    · rw [if_pos e] at hp; exact hp
    · rw [if_neg e] at hp; cases hp
  · by_cases e : i = v1.length
    · by_cases e' : j = v1.length
      · rw [e, e']
      · rw [if_neg e'] at hj; cases hj
    · rw [if_neg e] at hi; cases hi
  · unfold insC at hx
    by_cases hlt : i < v1.length
    · rw [List.getElem?_append_left (by rw [e1]; exact hlt), List.getElem?_map] at hx
      cases e : (ds.take v1.length)[i]? <;> rw [e] at hx <;> cases hx
    · rw [List.getElem?_append_right (by rw [e1]; omega), e1] at hx
      cases hk : i - v1.length with
      | zero => rw [hk] at hx; cases hx
      | succ q =>
        rw [hk, List.getElem?_cons_succ, List.getElem?_map] at hx
        cases e : (ds.drop v1.length)[q]? <;> rw [e] at hx <;> cases hx
section
variable {X : Cx} {W : WX} {sc : Scope} {N : List Str} {x : Str} {e : Expr} {es : List Expr} {p pos : Pos} {k : DA} {dvs : List V} {dds : List PyData} {m : List Ar → R (Rs × List Sl)}
theorem callC_core {Γ : List Sl} {G : Gh} {H : Hp} {σ : St} {as : List AV} {ds : List PyData} {vs : List V} {Q : VK} {n i : Nat} {ic : Bool × Cl} (hdv : ∀ G H, DnA X.K G H dvs dds) (S : Sta X.K G H σ Γ) (av : AVs X.K G H σ vs as) (hn : pickC n as = some i) (hc : cellAt Γ i = some ic) (hd : rdDs Γ (some i) (as.eraseIdx n) = some ds) (hfl : ic.2.fl = true)
    (hp : Pst X W G H σ ((m (insC n ic.2 (ds ++ dds))).atC n Γ i ic.1) fun z G' H' => Sta X.K G' H' σ z.2 → RsOk X.K G'.N H' Q z.1) : spU X.K X.mg m (vs ++ dvs) H Q (fun cls d H => W cls d σ H) := by
  have hn' : as[n]? = some (.s i) := by
    unfold pickC at hn
    split at hn
    · cases hn; exact ‹_›
    · cases hn
  obtain ⟨v, v1, v2, rfl, hv1, hv, av2⟩ := avs_erase av hn'
  obtain ⟨v', fp, g1, g2, g3, g4, g5, g6⟩ := S.cellU i ic.1 (cellAt_ok hc)
  rw [hv] at g1
  cases g1
  have h1 : DnA X.K (fun a o => H a = some o ∧ a ∉ fp) H (v1 ++ v2) ds := rdDs_ok (i := some i) (fp := fp) S g4 (fun j x u hj hr hu => g5 j x u (fun z => hj (by rw [z])) hr hu) hd av2
  have h2 : DnA X.K (fun a o => H a = some o ∧ a ∉ fp) H (v1 ++ (v2 ++ dvs)) (ds ++ dds) := by
    rw [← List.append_assoc]
    exact h1.append (hdv _ _)
  subst hv1
  refine ⟨_, _, _, G.N, by rw [List.append_assoc, List.cons_append]; exact argsC h2 g2 g3 (fun a o h => ⟨(S.w.new a o h).1, g4 true a o h⟩), ?_⟩
  have key : ∀ H' N' F' Z c', PostU X.K H (v1 ++ v :: v2 ++ dvs) (fun i => if i = v1.length then fp else []) fp G.N H' N' Z F' → ioAt v1.length Z = some c' → ∃ G', Sta X.K G' H' σ (Γ.set i (mkS ic.1 c')) ∧ Ext G H G' H' ∧ RgLe (RN N') (rg G' true) := fun H' N' F' Z c' P hz => by
    obtain ⟨u, q1, q2⟩ := P.cel _ _ (ioAt_ok hz)
    have : u = v := by
      rw [List.append_assoc, List.getElem?_append_right (Nat.le_refl _), Nat.sub_self] at q1
      exact (Option.some.inj q1).symm
    subst this
    exact g6 H' N' (F' v1.length) c' P.keep P.pal P.t P.new q2 fun p hp => P.al _ p hp
  cases hm : m (insC v1.length ic.2 (ds ++ dds)) with
  | bad => rw [hm] at hp; exact hp
  | exc y =>
    rw [hm] at hp
    intro H' N' F' C d P k1 k2
    obtain ⟨c', hz, hp⟩ := Pst.ofO (show Pst X W G H σ ((R.ofO (ioAt v1.length y.st)).bind fun c => .exc ⟨y.cls, y.flds, Γ.set i (mkS ic.1 c)⟩) _ from hp)
    obtain ⟨G', S', e', l⟩ := key H' N' F' y.st c' P hz
    refine hp G' H' σ C d e' S' k1 ?_
    rcases k2 with ⟨a, fs, q1, q2, q3, q4⟩ | q
    · exact .inl ⟨a, fs, q1, l _ _ q2, q3, q4.mono l (TupLe.rf _)⟩
    · exact .inr q
  | val z =>
    rw [hm] at hp
    intro H' N' F' P
    obtain ⟨c', hz, hp⟩ := Pst.ofO (show Pst X W G H σ ((R.ofO (ioAt v1.length z.2)).bind fun c => .val (z.1, Γ.set i (mkS ic.1 c))) _ from hp)
    obtain ⟨G', S', e', l⟩ := key H' N' F' z.2 c' P hz
    have q := hp G' H' e' S'
    simp only at q
    cases hz : z.1 with
    | d y => rw [hz] at q; exact fun v hv => q v (hv.mono l (TupLe.rf _))
    | c y => rw [hz] at q; exact fun v H2 ⟨fp, n1, n2, n3⟩ => q v H2 ⟨fp, n1, n2, Cl.mono n3 l (fun _ _ => rfl) (TupLe.rf _)⟩
def preC (n : Nat) (dds : List PyData) (z : List AV × List Sl) : R (Nat × Bool × List Ar) := (R.ofO (pickC n z.1)).bind fun i => (R.ofO (cellAt z.2 i)).bind fun ic => (R.ofO (rdDs z.2 (some i) (z.1.eraseIdx n))).bind fun ds => (R.req ic.2.fl).bind fun _ => .val (i, ic.1, insC n ic.2 (ds ++ dds))
theorem preC_ok {n : Nat} {z : List AV × List Sl} {G : Gh} {H : Hp} {σ : St} {τ : Type} {q : Nat × Bool × List Ar → R τ} {P : τ → Gh → Hp → Prop} (h : Pst X W G H σ ((preC n dds z).bind q) P) : ∃ i ic ds, pickC n z.1 = some i ∧ cellAt z.2 i = some ic ∧ rdDs z.2 (some i) (z.1.eraseIdx n) = some ds ∧ ic.2.fl = true ∧ Pst X W G H σ (q (i, ic.1, insC n ic.2 (ds ++ dds))) P := by
  unfold preC at h
  rw [R.bind_assoc] at h
  obtain ⟨i, h1, h⟩ := Pst.ofO h
  rw [R.bind_assoc] at h
  obtain ⟨ic, h2, h⟩ := Pst.ofO h
  rw [R.bind_assoc] at h
  obtain ⟨ds, h3, h⟩ := Pst.ofO h
  rw [R.bind_assoc] at h
  obtain ⟨h4, h⟩ := Pst.req h
  exact ⟨i, ic, ds, h1, h2, h3, h4, h⟩
end
end PD
set_option Elab.async false
set_option linter.all false
set_option maxRecDepth 100000
set_option maxHeartbeats 4000000
set_option autoImplicit false
namespace PD
open PySem PySem.Spec PyProof.Rows L2
section
variable {P : Program} {w : World} {A : Around} {E : Value → Shared → Prop} {s : Shared}
end
end PD
set_option Elab.async false
set_option linter.all false
set_option maxRecDepth 100000
set_option maxHeartbeats 4000000
set_option autoImplicit false
namespace PD
open PySem PySem.Spec PyProof.Rows L2
theorem rise_ext : ∀ {xs ys : List Int}, xs.Pairwise (· < ·) → ys.Pairwise (· < ·) → (∀ k, k ∈ xs ↔ k ∈ ys) → xs = ys
  | [], [], _, _, _ => rfl
  | [], y :: ys, _, _, h => absurd ((h y).2 (by simp)) (by simp)
  | x :: xs, [], _, _, h => absurd ((h x).1 (by simp)) (by simp)
  | x :: xs, y :: ys, hx, hy, h => by
    have hx' := List.pairwise_cons.mp hx
    have hy' := List.pairwise_cons.mp hy
    have e : x = y := by
      rcases List.mem_cons.mp ((h x).1 (by simp)) with z | z
      · exact z
      · rcases List.mem_cons.mp ((h y).2 (by simp)) with z' | z'
        · exact z'.symm
        · have a := hx'.1 y z'
          have b := hy'.1 x z
          omega
    subst e
    rw [rise_ext hx'.2 hy'.2 fun k => ?_]
    constructor
    · intro z
      rcases List.mem_cons.mp ((h k).1 (by simp [z])) with q | q
      · have := hx'.1 k z; omega
      · exact q
    · intro z
      rcases List.mem_cons.mp ((h k).2 (by simp [z])) with q | q
      · have := hy'.1 k z; omega
      · exact q
end PD
set_option Elab.async false
set_option linter.all false
set_option maxRecDepth 100000
set_option maxHeartbeats 4000000
set_option autoImplicit false
namespace PD
open PySem L2
section
variable {X : Cx} {W : WX} {sc : Scope} {N : List Str} {Γ : List Sl} {e : Expr} {es : List Expr} {pos p : Pos} {α γ : Type} {ma : R α} {as : α → List AV} {Γ1 : α → List Sl}
theorem ev_callB (C : Cf0 X W sc N) {x : Str} {id : String} {r : List V → Hp → VK → Prop} {k : α → R γ} {av : γ → AV} {Γk : γ → List Sl} (hc : CallR X (.builtin id) r) (hg : glB sc x = true) (hm : X.mg x = none) (hv : bootBuiltins x = some (.builtin id)) (ha : EvA X W Γ (e :: es) ma as Γ1)
    (hk : ∀ a G H σ vs Q, Sta X.K G H σ (Γ1 a) → AVs X.K G H σ vs (as a) → Pst X W G H σ (k a) (fun z G' H' => ∀ w, Sta X.K G' H' σ (Γk z) → AVok X.K G' H' σ w (av z) → Q w H') → r vs H Q)
    (hn : x ≠ "__name__" := by decide +kernel) (hdb : (x == ("__debug__" : Str)) = false := by decide +kernel) (he : starEach (e :: es) X.env = (false, eval e X.env) :: starEach es X.env := by rfl) (hpl : (backTo pos (starEach es X.env)).any (·.1) = false := by rfl) :
    Ev X W Γ (.Call (.Name x p) (e :: es) [] pos) (ma.bind k) av Γk :=
  pe_imp (pe_callB hc (C.gl hg) hm hv ha hn hdb he hpl) fun σ H Q ⟨G, S, p⟩ => ⟨G, S, (Pst.bind p).imp fun a G1 H1 e1 p1 vs S1 h1 => hk a G1 H1 σ vs Q S1 h1 p1⟩
theorem ev_callT (C : Cf0 X W sc N) {x : Str} {T : String} {r : List V → Hp → VK → Prop} {k : α → R γ} {av : γ → AV} {Γk : γ → List Sl} (hc : CallR X (.type T) r) (hg : glB sc x = true) (hm : X.mg x = none) (hv : bootBuiltins x = some (.type T)) (ha : EvA X W Γ (e :: es) ma as Γ1)
    (hk : ∀ a G H σ vs Q, Sta X.K G H σ (Γ1 a) → AVs X.K G H σ vs (as a) → Pst X W G H σ (k a) (fun z G' H' => ∀ w, Sta X.K G' H' σ (Γk z) → AVok X.K G' H' σ w (av z) → Q w H') → r vs H Q)
    (hn : x ≠ "__name__" := by decide +kernel) (hdb : (x == ("__debug__" : Str)) = false := by decide +kernel) (he : starEach (e :: es) X.env = (false, eval e X.env) :: starEach es X.env := by rfl) (hpl : (backTo pos (starEach es X.env)).any (·.1) = false := by rfl) :
    Ev X W Γ (.Call (.Name x p) (e :: es) [] pos) (ma.bind k) av Γk :=
  pe_imp (pe_callTy hc (C.gl hg) hm hv ha hn hdb he hpl) fun σ H Q ⟨G, S, p⟩ => ⟨G, S, (Pst.bind p).imp fun a G1 H1 e1 p1 vs S1 h1 => hk a G1 H1 σ vs Q S1 h1 p1⟩
theorem evf_callB (C : Cf0 X W sc N) {x : Str} {id : String} {r : List V → Hp → VK → Prop} {k : α → R γ} {ds : γ → List PyData} {Γk : γ → List Sl} (hc : CallR X (.builtin id) r) (hg : glB sc x = true) (hm : X.mg x = none) (hv : bootBuiltins x = some (.builtin id)) (ha : EvA X W Γ (e :: es) ma as Γ1)
    (hk : ∀ a G H σ vs Q, Sta X.K G H σ (Γ1 a) → AVs X.K G H σ vs (as a) → Pst X W G H σ (k a) (fun z G' H' => ∀ q ws, Sta X.K G' H' σ (Γk z) → H' q = none → DnA X.K (rg G' true) H' ws (ds z) → Q (.ref q) (upd H' q (.lst ws))) → r vs H Q)
    (hn : x ≠ "__name__" := by decide +kernel) (hdb : (x == ("__debug__" : Str)) = false := by decide +kernel) (he : starEach (e :: es) X.env = (false, eval e X.env) :: starEach es X.env := by rfl) (hpl : (backTo pos (starEach es X.env)).any (·.1) = false := by rfl) :
    EvF X W Γ (.Call (.Name x p) (e :: es) [] pos) (ma.bind k) ds Γk :=
  pe_imp (pe_callB hc (C.gl hg) hm hv ha hn hdb he hpl) fun σ H Q ⟨G, S, p⟩ => ⟨G, S, (Pst.bind p).imp fun a G1 H1 e1 p1 vs S1 h1 => hk a G1 H1 σ vs Q S1 h1 p1⟩
theorem evf_callT (C : Cf0 X W sc N) {x : Str} {T : String} {r : List V → Hp → VK → Prop} {k : α → R γ} {ds : γ → List PyData} {Γk : γ → List Sl} (hc : CallR X (.type T) r) (hg : glB sc x = true) (hm : X.mg x = none) (hv : bootBuiltins x = some (.type T)) (ha : EvA X W Γ (e :: es) ma as Γ1)
    (hk : ∀ a G H σ vs Q, Sta X.K G H σ (Γ1 a) → AVs X.K G H σ vs (as a) → Pst X W G H σ (k a) (fun z G' H' => ∀ q ws, Sta X.K G' H' σ (Γk z) → H' q = none → DnA X.K (rg G' true) H' ws (ds z) → Q (.ref q) (upd H' q (.lst ws))) → r vs H Q)
    (hn : x ≠ "__name__" := by decide +kernel) (hdb : (x == ("__debug__" : Str)) = false := by decide +kernel) (he : starEach (e :: es) X.env = (false, eval e X.env) :: starEach es X.env := by rfl) (hpl : (backTo pos (starEach es X.env)).any (·.1) = false := by rfl) :
    EvF X W Γ (.Call (.Name x p) (e :: es) [] pos) (ma.bind k) ds Γk :=
  pe_imp (pe_callTy hc (C.gl hg) hm hv ha hn hdb he hpl) fun σ H Q ⟨G, S, p⟩ => ⟨G, S, (Pst.bind p).imp fun a G1 H1 e1 p1 vs S1 h1 => hk a G1 H1 σ vs Q S1 h1 p1⟩
end
def intsOf : List PyData → Option (List Int)
  | [] => some []
  | .int i :: ds => (intsOf ds).map (i :: ·)
  | _ => none
theorem intsOf_eq : ∀ {ds : List PyData} {ns : List Int}, intsOf ds = some ns → ds = ns.map PyData.int
  | [], _, h => by cases h; rfl
  | .int i :: ds, ns, h => by
    unfold intsOf at h
    cases e : intsOf ds with
    | none => rw [e] at h; cases h
    | some ms => rw [e] at h; cases h; rw [intsOf_eq e]; rfl
  | .none :: _, _, h => by cases h
  | .bool _ :: _, _, h => by cases h
  | .str _ :: _, _, h => by cases h
  | .list _ :: _, _, h => by cases h
  | .tuple _ :: _, _, h => by cases h
  | .dict _ :: _, _, h => by cases h
theorem intsOf_map : ∀ ns : List Int, intsOf (ns.map PyData.int) = some ns
  | [] => rfl
  | n :: ns => by simp [intsOf, intsOf_map ns]
section
variable {X : Cx} {W : WX} {sc : Scope} {N : List Str} {a b c e : Expr} {es : List Expr} {pos p : Pos} {f g : DF} {k : DA}
theorem callR_or {v : Value} {r1 r2 : List V → Hp → VK → Prop} (h1 : CallR X v r1) (h2 : CallR X v r2) : CallR X v (fun vs H Q => r1 vs H Q ∨ r2 vs H Q) := fun pins s σ H xs us Q I rv z => z.elim (h1 pins s σ H xs us Q I rv) (h2 pins s σ H xs us Q I rv)
def dB (q : List Sl → List AV → R AV) (k : DA) : DF := fun Γ => (k Γ).bind fun z => (q z.2 z.1).bind fun y => .val (y, z.2)
theorem ce_bB (C : Cf0 X W sc N) {x : Str} {id : String} {r : List V → Hp → VK → Prop} (q : List Sl → List AV → R AV) (hc : CallR X (.builtin id) r) (hg : glB sc x = true) (hm : X.mg x = none) (hv : bootBuiltins x = some (.builtin id)) (ha : CA X W (e :: es) k)
    (hk : ∀ as Γ2 G H σ vs Q, Sta X.K G H σ Γ2 → AVs X.K G H σ vs as → Pk X W G H σ ((q Γ2 as).bind fun y => .val (y, Γ2)) Q → r vs H Q)
    (hn : x ≠ "__name__" := by decide +kernel) (hdb : (x == ("__debug__" : Str)) = false := by decide +kernel) (he : starEach (e :: es) X.env = (false, eval e X.env) :: starEach es X.env := by rfl) (hpl : (backTo pos (starEach es X.env)).any (·.1) = false := by rfl) :
    CE X W (.Call (.Name x p) (e :: es) [] pos) (dB q k) := fun Γ => ev_callB (k := fun z : List AV × List Sl => (q z.2 z.1).bind fun y => .val (y, z.2)) C hc hg hm hv (ha Γ) (fun z G H σ vs Q S h p => hk z.1 z.2 G H σ vs Q S h p) hn hdb he hpl
theorem ce_bT (C : Cf0 X W sc N) {x : Str} {id : String} {r : List V → Hp → VK → Prop} (q : List Sl → List AV → R AV) (hc : CallR X (.type id) r) (hg : glB sc x = true) (hm : X.mg x = none) (hv : bootBuiltins x = some (.type id)) (ha : CA X W (e :: es) k)
    (hk : ∀ as Γ2 G H σ vs Q, Sta X.K G H σ Γ2 → AVs X.K G H σ vs as → Pk X W G H σ ((q Γ2 as).bind fun y => .val (y, Γ2)) Q → r vs H Q)
    (hn : x ≠ "__name__" := by decide +kernel) (hdb : (x == ("__debug__" : Str)) = false := by decide +kernel) (he : starEach (e :: es) X.env = (false, eval e X.env) :: starEach es X.env := by rfl) (hpl : (backTo pos (starEach es X.env)).any (·.1) = false := by rfl) :
    CE X W (.Call (.Name x p) (e :: es) [] pos) (dB q k) := fun Γ => ev_callT (k := fun z : List AV × List Sl => (q z.2 z.1).bind fun y => .val (y, z.2)) C hc hg hm hv (ha Γ) (fun z G H σ vs Q S h p => hk z.1 z.2 G H σ vs Q S h p) hn hdb he hpl
def Pn (X : Cx) (W : WX) (G : Gh) (H : Hp) (σ : St) (m : R (List PyData × List Sl)) (Q : VK) : Prop := Pst X W G H σ m fun z G' H' => ∀ q ws, Sta X.K G' H' σ z.2 → H' q = none → DnA X.K (rg G' true) H' ws z.1 → Q (.ref q) (upd H' q (.lst ws))
def dBN (q : List Sl → List AV → R (List PyData)) (k : DA) : DN := fun Γ => (k Γ).bind fun z => (q z.2 z.1).bind fun y => .val (y, z.2)
theorem cn_bB (C : Cf0 X W sc N) {x : Str} {id : String} {r : List V → Hp → VK → Prop} (q : List Sl → List AV → R (List PyData)) (hc : CallR X (.builtin id) r) (hg : glB sc x = true) (hm : X.mg x = none) (hv : bootBuiltins x = some (.builtin id)) (ha : CA X W (e :: es) k)
    (hk : ∀ as Γ2 G H σ vs Q, Sta X.K G H σ Γ2 → AVs X.K G H σ vs as → Pn X W G H σ ((q Γ2 as).bind fun y => .val (y, Γ2)) Q → r vs H Q)
    (hn : x ≠ "__name__" := by decide +kernel) (hdb : (x == ("__debug__" : Str)) = false := by decide +kernel) (he : starEach (e :: es) X.env = (false, eval e X.env) :: starEach es X.env := by rfl) (hpl : (backTo pos (starEach es X.env)).any (·.1) = false := by rfl) :
    CN X W (.Call (.Name x p) (e :: es) [] pos) (dBN q k) := fun Γ => evf_callB (k := fun z : List AV × List Sl => (q z.2 z.1).bind fun y => .val (y, z.2)) C hc hg hm hv (ha Γ) (fun z G H σ vs Q S h p => hk z.1 z.2 G H σ vs Q S h p) hn hdb he hpl
theorem cn_bT (C : Cf0 X W sc N) {x : Str} {id : String} {r : List V → Hp → VK → Prop} (q : List Sl → List AV → R (List PyData)) (hc : CallR X (.type id) r) (hg : glB sc x = true) (hm : X.mg x = none) (hv : bootBuiltins x = some (.type id)) (ha : CA X W (e :: es) k)
    (hk : ∀ as Γ2 G H σ vs Q, Sta X.K G H σ Γ2 → AVs X.K G H σ vs as → Pn X W G H σ ((q Γ2 as).bind fun y => .val (y, Γ2)) Q → r vs H Q)
    (hn : x ≠ "__name__" := by decide +kernel) (hdb : (x == ("__debug__" : Str)) = false := by decide +kernel) (he : starEach (e :: es) X.env = (false, eval e X.env) :: starEach es X.env := by rfl) (hpl : (backTo pos (starEach es X.env)).any (·.1) = false := by rfl) :
    CN X W (.Call (.Name x p) (e :: es) [] pos) (dBN q k) := fun Γ => evf_callT (k := fun z : List AV × List Sl => (q z.2 z.1).bind fun y => .val (y, z.2)) C hc hg hm hv (ha Γ) (fun z G H σ vs Q S h p => hk z.1 z.2 G H σ vs Q S h p) hn hdb he hpl
theorem Pn.v {G : Gh} {H : Hp} {σ : St} {ds : List PyData} {Γ : List Sl} {Q : VK} (h : Pn X W G H σ (.val (ds, Γ)) Q) (S : Sta X.K G H σ Γ) {q : Addr} {ws : List V} (hq : H q = none) (hd : DnA X.K (rg G true) H ws ds) : Q (.ref q) (upd H q (.lst ws)) := h G H (Ext.rf S.w) q ws S hq hd
def kLen (Γ : List Sl) : List AV → R AV
  | [x] => match rdD Γ x with
    | some (.list ds) => .val (.d true (.int (ds.length : Nat)))
    | some (.tuple ds) => .val (.d true (.int (ds.length : Nat)))
    | some (.str z) => gq (decide (z.length ≤ sizeLine)) (.d true (.int (z.length : Nat)))
    | _ => .bad
  | _ => .bad
theorem ce_len (C : Cf0 X W sc N) (hg : glB sc "len" = true) (hm : X.mg "len" = none) (ha : CA X W [e] k) (he : starEach [e] X.env = (false, eval e X.env) :: starEach [] X.env := by rfl) : CE X W (.Call (.Name "len" p) [e] [] pos) (dB kLen k) :=
  ce_bB C kLen (callR_or call_len_seq call_len_str) hg hm PySem.boot_len ha (fun as Γ2 G H σ vs Q S h q => by
    unfold kLen at q
    split at q
    · obtain ⟨v, rfl, hv⟩ := avs_one h
      split at q
      · rename_i ds hd
        obtain ⟨l, xs, rfl, g1, g2⟩ := dn_list ((rdD_ok hd).ok S hv)
        refine .inl ⟨l, xs, rfl, .inl g1.sq, Pk.v q S ?_⟩
        rw [g2.length]
        exact .int _
      · rename_i ds hd
        obtain ⟨l, xs, rfl, g1, g2⟩ := dn_tuple ((rdD_ok hd).ok S hv)
        refine .inl ⟨l, xs, rfl, .inr g1, Pk.v q S ?_⟩
        rw [g2.length]
        exact .int _
      · rename_i z hd
        rcases gq_cases (decide (z.length ≤ sizeLine)) (AV.d true (.int (z.length : Nat))) with e | ⟨hc, e⟩
        · rw [e] at q; exact q.elim
        · rw [e] at q
          exact .inr ⟨z, by rw [dn_str ((rdD_ok hd).ok S hv)], of_decide_eq_true hc, Pk.v q S (.int _)⟩
      · exact q.elim
    · exact q.elim) (by decide +kernel) (by decide +kernel) he
def kMax2 (_ : List Sl) : List AV → R AV
  | [.d _ (.int i), .d _ (.int j)] => .val (.d true (.int (max2 i j)))
  | _ => .bad
def kMin2 (_ : List Sl) : List AV → R AV
  | [.d _ (.int i), .d _ (.int j)] => .val (.d true (.int (min2 i j)))
  | _ => .bad
theorem ce_max2 (C : Cf X W sc N) (hg : glB sc "max" = true) (hm : X.mg "max" = none) (ha : CA X W (e :: es) k) (he : starEach (e :: es) X.env = (false, eval e X.env) :: starEach es X.env := by rfl) (hpl : (backTo pos (starEach es X.env)).any (·.1) = false := by rfl) : CE X W (.Call (.Name "max" p) (e :: es) [] pos) (dB kMax2 k) :=
  ce_bB C.toCf0 kMax2 (call_max2 C.calm) hg hm PyProof.Rows.boot_max ha (fun as Γ2 G H σ vs Q S h q => by
    unfold kMax2 at q
    split at q
    · obtain ⟨v, u, rfl, q1, q2⟩ := avs_two h
      exact ⟨_, _, by rw [dn_int q1, dn_int q2], Pk.v q S (.int _)⟩
    · exact q.elim) (by decide +kernel) (by decide +kernel) he hpl
theorem ce_min2 (C : Cf X W sc N) (hg : glB sc "min" = true) (hm : X.mg "min" = none) (ha : CA X W (e :: es) k) (he : starEach (e :: es) X.env = (false, eval e X.env) :: starEach es X.env := by rfl) (hpl : (backTo pos (starEach es X.env)).any (·.1) = false := by rfl) : CE X W (.Call (.Name "min" p) (e :: es) [] pos) (dB kMin2 k) :=
  ce_bB C.toCf0 kMin2 (call_min2 C.calm) hg hm (by decide +kernel) ha (fun as Γ2 G H σ vs Q S h q => by
    unfold kMin2 at q
    split at q
    · obtain ⟨v, u, rfl, q1, q2⟩ := avs_two h
      exact ⟨_, _, by rw [dn_int q1, dn_int q2], Pk.v q S (.int _)⟩
    · exact q.elim) (by decide +kernel) (by decide +kernel) he hpl
def rdInts (Γ : List Sl) (x : AV) : Option (List Int) := match rdD Γ x with
  | some (.list ds) => intsOf ds
  | _ => none
theorem rdInts_ok {G : Gh} {H : Hp} {σ : St} {Γ : List Sl} {x : AV} {v : V} {ns : List Int} (S : Sta X.K G H σ Γ) (hv : AVok X.K G H σ v x) (h : rdInts Γ x = some ns) : ∃ l, v = .ref l ∧ SqL X.K H l (ns.map V.int) := by
  unfold rdInts at h
  split at h
  · rename_i ds hd
    obtain ⟨l, xs, rfl, g1, g2⟩ := dn_list ((rdD_ok hd).ok S hv)
    rw [intsOf_eq h] at g2
    rw [dna_ints g2] at g1
    exact ⟨l, rfl, g1.sq⟩
  · cases h
def kSum (Γ : List Sl) : List AV → R AV
  | [x] => (R.ofO (rdInts Γ x)).bind fun ns => .val (.d true (.int ns.sum))
  | _ => .bad
theorem ofO_cases {α β : Type} {o : Option α} {k : α → R β} : (∃ y, o = some y ∧ (R.ofO o).bind k = k y) ∨ (R.ofO o).bind k = .bad := by
  cases o with
  | none => exact .inr rfl
  | some y => exact .inl ⟨y, rfl, rfl⟩
theorem ce_sum (C : Cf X W sc N) (hg : glB sc "sum" = true) (hm : X.mg "sum" = none) (ha : CA X W [e] k) (he : starEach [e] X.env = (false, eval e X.env) :: starEach [] X.env := by rfl) : CE X W (.Call (.Name "sum" p) [e] [] pos) (dB kSum k) :=
  ce_bB C.toCf0 kSum (cr_sum C.calm) hg hm (by decide +kernel) ha (fun as Γ2 G H σ vs Q S h q => by
    unfold kSum at q
    split at q
    · rename_i x
      obtain ⟨v, rfl, hv⟩ := avs_one h
      rcases ofO_cases (o := rdInts Γ2 x) (k := fun ns => R.val (AV.d true (.int ns.sum))) with ⟨ns, e1, e2⟩ | e2
      · rw [e2] at q
        obtain ⟨l, rfl, hs⟩ := rdInts_ok S hv e1
        exact ⟨l, ns, rfl, hs, Pk.v q S (.int _)⟩
      · rw [e2] at q; exact q.elim
    · exact q.elim) (by decide +kernel) (by decide +kernel) he
def kInt (_ : List Sl) : List AV → R AV
  | [.d _ (.int i)] => .val (.d true (.int i))
  | [.d _ (.bool z)] => .val (.d true (.int (b2n z)))
  | _ => .bad
theorem ce_intc (C : Cf0 X W sc N) (hg : glB sc "int" = true) (hm : X.mg "int" = none) (ha : CA X W [e] k) (he : starEach [e] X.env = (false, eval e X.env) :: starEach [] X.env := by rfl) : CE X W (.Call (.Name "int" p) [e] [] pos) (dB kInt k) :=
  ce_bT C kInt call_int1 hg hm PyProof.Rows.boot_int ha (fun as Γ2 G H σ vs Q S h q => by
    unfold kInt at q
    split at q
    · obtain ⟨v, rfl, hv⟩ := avs_one h
      exact .inl ⟨_, by rw [dn_int hv], Pk.v q S (.int _)⟩
    · obtain ⟨v, rfl, hv⟩ := avs_one h
      exact .inr ⟨_, by rw [dn_bool hv], Pk.v q S (.int _)⟩
    · exact q.elim) (by decide +kernel) (by decide +kernel) he
def rdSeq (Γ : List Sl) : AV → Option (List PyData × Bool)
  | .d fr (.list ds) => some (ds, fr)
  | .d fr (.tuple ds) => some (ds, fr)
  | .s i => match rdD Γ (.s i) with
    | some (.list ds) => some (ds, true)
    | _ => none
  | _ => none
theorem rdSeq_ok {G : Gh} {H : Hp} {σ : St} {Γ : List Sl} {x : AV} {v : V} {z : List PyData × Bool} (S : Sta X.K G H σ Γ) (hv : AVok X.K G H σ v x) (h : rdSeq Γ x = some z) : ∃ l xs, v = .ref l ∧ (SqL X.K H l xs ∨ H l = some (.tup xs)) ∧ DnA X.K (rg G z.2) H xs z.1 := by
  unfold rdSeq at h
  split at h
  · cases h
    obtain ⟨l, xs, rfl, g1, g2⟩ := dn_list hv
    exact ⟨l, xs, rfl, .inl (g1.mono (S.w.rgl _)).sq, g2⟩
  · cases h
    obtain ⟨l, xs, rfl, g1, g2⟩ := dn_tupleH hv
    exact ⟨l, xs, rfl, .inr g1, g2⟩
  · split at h
    · rename_i ds hd
      cases h
      obtain ⟨l, xs, rfl, g1, g2⟩ := S.slotL hd hv
      exact ⟨l, xs, rfl, .inl (SqL.of g1), g2⟩
    · cases h
  · cases h
def kTuple (Γ : List Sl) : List AV → R AV
  | [x] => (R.ofO (rdSeq Γ x)).bind fun z => .val (.d z.2 (.tuple z.1))
  | _ => .bad
theorem ce_tuple (C : Cf0 X W sc N) (hg : glB sc "tuple" = true) (hm : X.mg "tuple" = none) (ha : CA X W [e] k) (he : starEach [e] X.env = (false, eval e X.env) :: starEach [] X.env := by rfl) : CE X W (.Call (.Name "tuple" p) [e] [] pos) (dB kTuple k) :=
  ce_bT C kTuple call_tuple_of hg hm PyProof.Rows.boot_tuple ha (fun as Γ2 G H σ vs Q S h q => by
    unfold kTuple at q
    split at q
    · rename_i x
      obtain ⟨v, rfl, hv⟩ := avs_one h
      rcases ofO_cases (o := rdSeq Γ2 x) (k := fun z => R.val (AV.d z.2 (.tuple z.1))) with ⟨z, e1, e2⟩ | e2
      · rw [e2] at q
        obtain ⟨l, xs, rfl, hs, hd⟩ := rdSeq_ok S hv e1
        refine ⟨l, xs, rfl, hs.imp (fun hs => ⟨hs, fun l' hl => ?_⟩) fun hs => ⟨SqT.of hs, Pk.v q S (.tup hs hd)⟩⟩
        obtain ⟨G2, S2, e2, h2⟩ := S.newTup hl hd
        exact Pk.v' q e2 S2 h2
      · rw [e2] at q; exact q.elim
    · exact q.elim) (by decide +kernel) (by decide +kernel) he
def kList (Γ : List Sl) : List AV → R (List PyData)
  | [x] => (R.ofO (rdSeq Γ x)).bind fun z => gq (z.2 || flat.flatA z.1) z.1
  | _ => .bad
theorem cn_list (C : Cf0 X W sc N) (hg : glB sc "list" = true) (hm : X.mg "list" = none) (ha : CA X W [e] k) (he : starEach [e] X.env = (false, eval e X.env) :: starEach [] X.env := by rfl) : CN X W (.Call (.Name "list" p) [e] [] pos) (dBN kList k) :=
  cn_bT C kList call_list_of hg hm PyProof.Rows.boot_list ha (fun as Γ2 G H σ vs Q S h q => by
    unfold kList at q
    split at q
    · rename_i x
      obtain ⟨v, rfl, hv⟩ := avs_one h
      rcases ofO_cases (o := rdSeq Γ2 x) (k := fun z => gq (z.2 || flat.flatA z.1) z.1) with ⟨z, e1, e2⟩ | e2
      · rw [e2] at q
        obtain ⟨l, xs, rfl, hs, hd⟩ := rdSeq_ok S hv e1
        rcases gq_cases (z.2 || flat.flatA z.1) z.1 with e | ⟨hc, e⟩
        · rw [e] at q; exact q.elim
        · rw [e] at q
          refine ⟨l, xs, rfl, hs.imp id SqT.of, fun l' hl => Pn.v q S hl ?_⟩
          obtain ⟨ds, fr⟩ := z
          cases fr with
          | true => exact hd
          | false => exact hd.free (by simpa using hc)
      · rw [e2] at q; exact q.elim
    · exact q.elim) (by decide +kernel) (by decide +kernel) he
def kSorted (Γ : List Sl) : List AV → R (List PyData)
  | [x] => (R.ofO (rdInts Γ x)).bind fun ns => .val ((sortI ns).map PyData.int)
  | _ => .bad
theorem cn_sorted (C : Cf0 X W sc N) (hg : glB sc "sorted" = true) (hm : X.mg "sorted" = none) (ha : CA X W [e] k) (he : starEach [e] X.env = (false, eval e X.env) :: starEach [] X.env := by rfl) : CN X W (.Call (.Name "sorted" p) [e] [] pos) (dBN kSorted k) :=
  cn_bB C kSorted cr_sortedI hg hm PyProof.Rows.boot_sorted ha (fun as Γ2 G H σ vs Q S h q => by
    unfold kSorted at q
    split at q
    · rename_i x
      obtain ⟨v, rfl, hv⟩ := avs_one h
      rcases ofO_cases (o := rdInts Γ2 x) (k := fun ns => R.val ((sortI ns).map PyData.int)) with ⟨ns, e1, e2⟩ | e2
      · rw [e2] at q
        obtain ⟨l, rfl, hs⟩ := rdInts_ok S hv e1
        refine ⟨l, ns, rfl, hs, fun ns' p' hp hs' hp' => ?_⟩
        rw [sortI_unique hp hs']
        exact Pn.v q S hp' (ints_dna _)
      · rw [e2] at q; exact q.elim
    · exact q.elim) (by decide +kernel) (by decide +kernel) he
inductive Tn where
  | int | bool | str | list | tuple | dict
def Tn.nm : Tn → String
  | .int => "int"
  | .bool => "bool"
  | .str => "str"
  | .list => "list"
  | .tuple => "tuple"
  | .dict => "dict"
def tyIs : PyData → Tn → Bool
  | .bool _, .int => true
  | .bool _, .bool => true
  | .int _, .int => true
  | .str _, .str => true
  | .list _, .list => true
  | .tuple _, .tuple => true
  | .dict _, .dict => true
  | _, _ => false
def noDct : PyData → Bool
  | .dict _ => false
  | _ => true
def dIsi (ts : List Tn) (f : DF) : DF := fun Γ => (f Γ).bind fun x => match rdD x.2 x.1 with
  | some d => gq (noDct d) (.d true (.bool (ts.any fun t => tyIs d t)), x.2)
  | none => .bad
end
end PD
set_option Elab.async false
set_option linter.all false
set_option maxRecDepth 100000
set_option maxHeartbeats 4000000
set_option autoImplicit false
namespace PD
open PySem L2
def R.nox {α : Type} : R α → R α
  | .exc _ => .bad
  | m => m
abbrev WF : WX := fun _ _ _ _ => False
section
variable {X : Cx} {W : WX} {sc : Scope} {N : List Str} {Γ : List Sl}
theorem Cf.blk (C : Cf X W sc N) {s : Shared} {H : Hp} {scope : Scope} {cl : List (Str × Addr)} {c : Addr} {fp : List Addr} : Cf (X.blk s H scope (compEnvC scope cl c X.env) fp) WF (relS scope sc) N := by
  refine ⟨⟨?_, C.hN, C.nd, takes0, C.hu, PassesOwn.never, C.hu2⟩, C.calm⟩
  show relabel scope X.env = relS scope sc
  rw [← C.hsc]
  rfl
theorem Clee.blk {x : Str} {dvs : List V} {sp : Sp} (h : Clee X x dvs sp) {s : Shared} {H : Hp} {scope : Scope} {ce : Env} {fp : List Addr} : Clee (X.blk s H scope ce fp) x dvs sp := h
theorem Sta.wipeS {K : PySem.W.Frag} {G : Gh} {H : Hp} {σ : St} {Γ : List Sl} (S : Sta K G H σ Γ) : ∀ vs : List Nat, Sta K G H (L2.wipe σ vs) (wipeG Γ vs)
  | [] => S
  | v :: vs => (Sta.wipeS S vs).blank v none
theorem wipeG_at {Γ : List Sl} : ∀ {vs : List Nat} {i : Nat}, i ∈ vs → i < Γ.length → (wipeG Γ vs)[i]? = some .un
  | v :: vs, i, h, hl => by
    have hlen : ∀ ws : List Nat, (wipeG Γ ws).length = Γ.length := fun ws => by
      induction ws with
      | nil => rfl
      | cons w ws ih => simp [wipeG, ih]
    by_cases q : i = v
    · subst q
      exact List.getElem?_set_self (by rw [hlen]; exact hl)
    · have h' : i ∈ vs := by
        rcases List.mem_cons.mp h with z | z
        · exact absurd z q
        · exact z
      show ((wipeG Γ vs).set v .un)[i]? = some .un
      rw [List.getElem?_set_ne (Ne.symm q)]
      exact wipeG_at h' hl
theorem wipe_eq {σ σ' : St} {vs ts : List Nat} (hl : σ'.length = σ.length) (h : ∀ j, j ∉ ts → σ'[j]? = σ[j]?) (hs : ∀ j ∈ ts, j ∈ vs) : wipe σ' vs = wipe σ vs := by
  have at_ : ∀ (ρ : St) (ws : List Nat) (j : Nat), j ∈ ws → j < ρ.length → (wipe ρ ws)[j]? = some none := fun ρ ws => by
    induction ws with
    | nil => intro j hj; cases hj
    | cons w ws ih =>
      intro j hj hl
      by_cases q : j = w
      · subst q
        exact List.getElem?_set_self (by rw [wipe_length]; exact hl)
      · show ((wipe ρ ws).set w none)[j]? = some none
        rw [List.getElem?_set_ne (Ne.symm q)]
        refine ih j ?_ hl
        rcases List.mem_cons.mp hj with z | z
        · exact absurd z q
        · exact z
  refine List.ext_getElem? fun j => ?_
  by_cases hj : j ∈ vs
  · by_cases hlt : j < σ.length
    · rw [at_ σ' vs j hj (by rw [hl]; exact hlt), at_ σ vs j hj hlt]
    · rw [List.getElem?_eq_none (by rw [wipe_length, hl]; omega), List.getElem?_eq_none (by rw [wipe_length]; omega)]
  · rw [wipe_out hj, wipe_out hj]
    exact h j fun z => hj (hs j z)
def compU (vs : List Nat) (g : DG) (fr : Bool) (t : DT) (e : DF) : List PyData → List Sl → R (List PyData × List Sl)
  | [], Γ => .val ([], Γ)
  | d :: ds, Γ => (R.ofO (g fr d Γ)).bind fun Γ1 => (t Γ1).nox.bind fun x => if x.1 then (e x.2).nox.bind fun y => (R.ofO (avD y.1)).bind fun o => (compU vs g fr t e ds (wipeG y.2 vs)).bind fun r => .val (o :: r.1, r.2) else compU vs g fr t e ds (wipeG x.2 vs)
theorem compU_cons (vs : List Nat) (g : DG) (fr : Bool) (t : DT) (e : DF) (d : PyData) (ds : List PyData) (Γ : List Sl) : compU vs g fr t e (d :: ds) Γ = (R.ofO (g fr d Γ)).bind fun Γ1 => (t Γ1).nox.bind fun x => if x.1 then (e x.2).nox.bind fun y => (R.ofO (avD y.1)).bind fun o => (compU vs g fr t e ds (wipeG y.2 vs)).bind fun r => .val (o :: r.1, r.2) else compU vs g fr t e ds (wipeG x.2 vs) := rfl
def nComp (vs : List Nat) (g : DG) (it : DI) (t : DT) (e : DF) : DN := fun Γ => (it Γ).bind fun z => (R.req (szB z.1.1)).bind fun _ => compU vs g z.1.2 t e z.1.1 (wipeG z.2 vs)
def CTs (X : Cx) (W : WX) (es : List Expr) (f : DT) : Prop := ∀ Γ, PTs X es (rdT X W Γ (f Γ) Prod.fst Prod.snd)
theorem cts_one {e : Expr} {t : DT} (h : CT X W e t) : CTs X W [e] t := fun Γ => pts_one (h Γ)
def tYes : DT := fun Γ => .val (true, Γ)
theorem cts_nil : CTs X W [] tYes := fun Γ => ⟨fun pins s' σ H Q I ⟨G, S, p⟩ => pts_nil.run pins s' σ H Q I (p G H (Ext.rf S.w) S)⟩
variable {tg iter elt : Expr} {ifs : List Expr} {scope : Scope} {own : List (Str × Nat)} {pos : Pos} {it : DI} {g : DG} {t : DT} {e : DF} {ts : List Nat}
theorem comp_rdU (hts : ∀ j ∈ ts, j ∈ own.map (·.2)) {σ : St} {H : Hp} {Q : VK} (h : rdF X W Γ (nComp (own.map (·.2)) g it t e Γ) Prod.fst Prod.snd σ H Q) :
    tLc (rdIU X W Γ (it Γ)) (fun v σ H Q => ∃ G Γ fr d Γ', Sta X.K G H σ Γ ∧ Dn X.K (rg G fr) H v d ∧ g fr d Γ = some Γ' ∧ ∀ σ', σ'.length = σ.length → (∀ j, j ∉ ts → σ'[j]? = σ[j]?) → Sta X.K G H σ' Γ' → Q σ' H)
      (fun σ H Q => ∃ Γ1, rdT X WF Γ1 (t Γ1) Prod.fst Prod.snd σ H Q) (fun σ H Q => ∃ Γ1, rdE X WF Γ1 (e Γ1) Prod.fst Prod.snd σ H Q) (own.map (·.2)) σ H Q := by
  obtain ⟨G, S0, p⟩ := h
  refine ⟨G, S0, (Pst.bind p).imp fun r G1 H1 e1 p1 J S1 I D hD => ?_⟩
  generalize hvs : own.map (·.2) = vs at *
  obtain ⟨⟨items, fr⟩, Γ1⟩ := r
  obtain ⟨hsz, p1⟩ := Pst.req p1
  simp only at hsz p1 I S1
  have hsz : items.length ≤ sizeLine := of_decide_eq_true hsz
  have hE0 : G1.E D = none := by
    cases q : G1.E D with
    | none => rfl
    | some u => rw [(S1.w.ex D u q).1] at hD; cases hD
  have hID : ∀ j, G1.I j ≠ some (.ref D) := fun j h => by
    rcases S1.w.iv j D h with z | z | ⟨xs, z⟩
    · exact S1.w.pal D z hD
    · exact z hE0
    · rw [hD] at z; cases z
  have hww : L2.wipe (L2.wipe σ vs) vs = L2.wipe σ vs := wipe_eq (ts := vs) (wipe_length ..) (fun j hj => wipe_out hj) (fun j hj => hj)
  have nol : ∀ vs' : List V, (∀ xs, HO.lst vs' ≠ .tup xs) ∧ ∀ x y, HO.lst vs' ≠ .frz x y := fun vs' => ⟨fun _ z => (by cases z), fun _ _ z => (by cases z)⟩
  let cu : List PyData → List Sl → R (List PyData × List Sl) := compU vs g fr t e
  let body : Nat → Hp → Prop := fun i H2 => i ≤ items.length ∧ ∃ G2 s0 vacc bs, Sta X.K G2 H2 (L2.wipe σ vs) (wipeG s0 vs) ∧ Le G1 H1 G2 H2 ∧ G2.E = upd G1.E D (.lst vacc) ∧ G2.I = G1.I ∧ DnA X.K (rg G2 true) H2 vacc bs ∧ bs.length ≤ i ∧
    compU vs g fr t e items (wipeG Γ1 vs) = (compU vs g fr t e (items.drop i) (wipeG s0 vs)).bind fun z => .val (bs ++ z.1, z.2)
  refine ⟨fun i m H2 => m = items.length - i ∧ body i H2, ⟨_, rfl, Nat.zero_le _, ?_⟩, ?_⟩
  · have Sw : Sta X.K G1 H1 (L2.wipe σ vs) (wipeG Γ1 vs) := S1.wipeS vs
    obtain ⟨S2, t2⟩ := Sw.pin (o := .lst []) hD
    refine ⟨_, Γ1, [], [], S2, ⟨rfl, rfl, fun _ _ h => h, fun _ _ h => .inl h, t2, S2.w, fun a o h => by show upd G1.E D _ a = _; rw [upd_ne (fun z => by rw [z, hE0] at h; cases h)]; exact h⟩, rfl, rfl, .nil, Nat.le_refl _, ?_⟩
    rw [List.drop_zero]
    have : (fun z : List PyData × List Sl => R.val ([] ++ z.1, z.2)) = fun z => R.val z := rfl
    rw [this, R.bind_val]
  · rintro i m H2 ⟨rfl, hile, G2, s0, vacc, bs, S2, l2, hE2, hI2, d2, hbs, eq⟩
    by_cases hlt : i < items.length
    · rw [List.drop_eq_getElem_cons hlt, compU_cons, R.bind_assoc] at eq
      cases hg : g fr items[i] (wipeG s0 vs) with
      | none => rw [hg] at eq; rw [eq] at p1; exact p1.elim
      | some Γ3 =>
      rw [hg] at eq
      have eq : compU vs g fr t e items (wipeG Γ1 vs) = ((t Γ3).nox.bind fun x => if x.1 then (e x.2).nox.bind fun y => (R.ofO (avD y.1)).bind fun o => (compU vs g fr t e (items.drop (i + 1)) (wipeG y.2 vs)).bind fun r => .val (o :: r.1, r.2) else compU vs g fr t e (items.drop (i + 1)) (wipeG x.2 vs)).bind fun z => .val (bs ++ z.1, z.2) := eq
      rw [R.bind_assoc] at eq
      refine .inr ⟨I.go i G2 H2 hlt l2, body (i + 1), fun H' hb => ⟨_, (by omega), rfl, hb⟩, fun v H3 y => ?_⟩
      obtain ⟨G3, d, hd, e3, S3, dn⟩ := I.yl i G2 H2 _ _ v H3 hlt l2 S2 y
      have hx : d = items[i] := by
        rw [List.getElem?_eq_getElem hlt] at hd
        exact (Option.some.inj hd).symm
      subst hx
      refine ⟨G3, wipeG s0 vs, fr, items[i], Γ3, S3, dn, hg, fun σ2 l3 k3 S4 => ⟨(wipe_eq l3 k3 hts).trans hww, Γ3, G3, S4, ?_⟩⟩
      have hw2 : L2.wipe σ2 vs = L2.wipe σ vs := (wipe_eq l3 k3 hts).trans hww
      cases htt : t Γ3 with
      | bad => rw [htt] at eq; rw [eq] at p1; exact p1.elim
      | exc z => rw [htt] at eq; rw [eq] at p1; exact p1.elim
      | val x =>
        rw [htt] at eq
        intro G4 H4 e4 S5
        obtain ⟨b, Γ4⟩ := x
        have eq : compU vs g fr t e items (wipeG Γ1 vs) = (if b = true then (e Γ4).nox.bind fun y => (R.ofO (avD y.1)).bind fun o => (compU vs g fr t e (items.drop (i + 1)) (wipeG y.2 vs)).bind fun r => .val (o :: r.1, r.2) else compU vs g fr t e (items.drop (i + 1)) (wipeG Γ4 vs)).bind fun z => .val (bs ++ z.1, z.2) := eq
        have l4 : Le G1 H1 G4 H4 := (l2.tr e3.le).tr e4.le
        have hE4 : G4.E = upd G1.E D (.lst vacc) := e4.e.trans (e3.e.trans hE2)
        have hI4 : G4.I = G1.I := e4.i.trans (e3.i.trans hI2)
        have d4 : DnA X.K (rg G4 true) H4 vacc bs := e4.dna (e3.dna d2)
        cases b with
        | false =>
          refine itF ⟨hlt, G4, Γ4, vacc, bs, ?_, l4, hE4, hI4, d4, Nat.le_succ_of_le hbs, ?_⟩
          · rw [← hw2]
            exact S5.wipeS vs
          · rw [eq, if_neg (by simp)]
        | true =>
          rw [if_pos rfl, R.bind_assoc] at eq
          refine itT ⟨Γ4, G4, S5, ?_⟩
          cases hte : e Γ4 with
          | bad => rw [hte] at eq; rw [eq] at p1; exact p1.elim
          | exc z => rw [hte] at eq; rw [eq] at p1; exact p1.elim
          | val z =>
            rw [hte] at eq
            obtain ⟨av, Γ5⟩ := z
            have eq : compU vs g fr t e items (wipeG Γ1 vs) = ((R.ofO (avD av)).bind fun o => (compU vs g fr t e (items.drop (i + 1)) (wipeG Γ5 vs)).bind fun r => .val (o :: r.1, r.2)).bind fun z => .val (bs ++ z.1, z.2) := eq
            cases hav : avD av with
            | none => rw [hav] at eq; rw [eq] at p1; exact p1.elim
            | some o =>
            rw [hav] at eq
            have eq : compU vs g fr t e items (wipeG Γ1 vs) = ((compU vs g fr t e (items.drop (i + 1)) (wipeG Γ5 vs)).bind fun r => .val (o :: r.1, r.2)).bind fun z => .val (bs ++ z.1, z.2) := eq
            intro G5 H5 e5 yv S6 dy
            have dy : Dn X.K (rg G5 true) H5 yv o := by
              unfold avD at hav
              split at hav
              · cases hav; exact dy
              · cases hav
            have hE5 : G5.E = upd G1.E D (.lst vacc) := e5.e.trans hE4
            obtain ⟨S7, hHD, t7⟩ := (S6.wipeS vs).unpin hE5 hE0 (nol vacc).1 (nol vacc).2 (fun j => by rw [e5.i, hI4]; exact hID j)
            have hal : vacc.length = bs.length := d4.length
            refine ⟨vacc, hHD, by omega, ?_⟩
            obtain ⟨S8, t8⟩ := S7.pin (o := .lst (vacc ++ [yv])) del_same
            have hH : upd (PD.del H5 D) D (.lst (vacc ++ [yv])) = upd H5 D (.lst (vacc ++ [yv])) := by
              funext b
              by_cases q : b = D
              · subst q; rw [upd_same, upd_same]
              · rw [upd_ne q, upd_ne q, del_ne q]
            rw [hH] at S8 t8
            have t9 : TupLe H5 (upd H5 D (.lst (vacc ++ [yv]))) := t7.tr t8
            refine ⟨hlt, ⟨G5.H0, G5.P, G5.I, G5.N, upd G1.E D (.lst (vacc ++ [yv]))⟩, Γ5, vacc ++ [yv], bs ++ [o], ?_, ⟨(l4.tr e5.le).h0, (l4.tr e5.le).p, (l4.tr e5.le).n, (l4.tr e5.le).nn, (l4.tr e5.le).t.tr t9, S8.w, fun a o h => by show upd G1.E D _ a = _; rw [upd_ne (fun z => by rw [z, hE0] at h; cases h)]; exact h⟩, rfl, e5.i.trans hI4, ?_, ?_, ?_⟩
            · rw [← hw2]
              exact S8
            · exact ((e5.dna d4).append (.cons dy .nil)).mono (fun _ _ h => h) t9
            · rw [List.length_append]
              show bs.length + 1 ≤ i + 1
              omega
            · rw [eq, R.bind_assoc]
              congr 1
              funext q
              show R.val (bs ++ o :: q.1, q.2) = R.val (bs ++ [o] ++ q.1, q.2)
              rw [List.append_assoc]
              rfl
    · have ei : i = items.length := by omega
      subst ei
      refine .inl ⟨I.st G2 H2 l2, ?_⟩
      rw [List.drop_length] at eq
      have eq : compU vs g fr t e items (wipeG Γ1 vs) = .val (bs ++ [], wipeG s0 vs) := eq
      rw [List.append_nil] at eq
      rw [eq] at p1
      obtain ⟨S7, hHD, t7⟩ := S2.unpin hE2 hE0 (nol vacc).1 (nol vacc).2 (fun j => by rw [hI2]; exact hID j)
      have P := p1 ⟨G2.H0, G2.P, G2.I, G2.N, G1.E⟩ (PD.del H2 D) ⟨l2.h0, l2.p, hI2, rfl, l2.n, l2.nn, l2.t.tr t7, S7.w⟩ D vacc (S7.swap (wipe_length ..).symm fun j => ?_) del_same (d2.mono (fun _ _ h => h) t7)
      · rw [del_upd hHD] at P
        exact P
      · have hlen : ∀ ws : List Nat, (wipeG s0 ws).length = s0.length := fun ws => by
          induction ws with
          | nil => rfl
          | cons w ws ih => simp [wipeG, ih]
        by_cases hj : j ∈ vs
        · by_cases hjl : j < s0.length
          · exact .inr (wipeG_at hj hjl)
          · left
            obtain ⟨A7, Z7⟩ := S7
            have : s0.length = σ.length := by rw [← hlen vs, Z7.len, wipe_length]
            rw [List.getElem?_eq_none (by omega), List.getElem?_eq_none (by rw [wipe_length]; omega)]
        · exact .inl (wipe_out hj).symm
structure CompU (X : Cx) (W : WX) (sc : Scope) (N : List Str) (tg iter elt : Expr) (ifs : List Expr) (scope : Scope) (own : List (Str × Nat)) (ts : List Nat) (g : DG) (it : DI) (t : DT) (e : DF) : Prop where
  hin : CI X W tg iter it
  ok : blkC N sc scope own = true
  hg : ∀ (s : Shared) (H : Hp) (c : Addr) (cl : List (Str × Addr)) (fp : List Addr), CG (X.blk s H scope (compEnvC scope cl c X.env) fp) tg ts g
  ht : ∀ (s : Shared) (H : Hp) (c : Addr) (cl : List (Str × Addr)) (fp : List Addr), CTs (X.blk s H scope (compEnvC scope cl c X.env) fp) WF ifs t
  he : ∀ (s : Shared) (H : Hp) (c : Addr) (cl : List (Str × Addr)) (fp : List Addr), CE (X.blk s H scope (compEnvC scope cl c X.env) fp) WF elt e
  hts : ∀ j ∈ ts, j ∈ own.map (·.2)
  hs : ∀ x, foldedSetIterable iter X.env x = pure x
theorem cn_comp (C : Cf X W sc N) (h : CompU X W sc N tg iter elt ifs scope own ts g it t e) : CN X W (.ListComp elt [⟨tg, iter, ifs, 0⟩] scope pos) (nComp (own.map (·.2)) g it t e) := fun Γ => by
  have hB : BlkOk X.N X.env.scope scope own := by rw [C.hN, C.hsc]; exact blkOk_by h.ok
  refine pe_imp (pe_lc (g := fun v σ H Q => ∃ G Γ fr d Γ', Sta X.K G H σ Γ ∧ Dn X.K (rg G fr) H v d ∧ g fr d Γ = some Γ' ∧ ∀ σ' : St, List.length σ' = List.length σ → (∀ j, j ∉ ts → σ'[j]? = σ[j]?) → Sta X.K G H σ' Γ' → Q σ' H)
    (tt := fun σ H Q => ∃ Γ1, rdT X WF Γ1 (t Γ1) Prod.fst Prod.snd σ H Q) (te := fun σ H Q => ∃ Γ1, rdE X WF Γ1 (e Γ1) Prod.fst Prod.snd σ H Q)
    C.calm (by rw [C.hN]; exact C.nd) (h.hin Γ) hB (fun s H c cl fp => h.hg s H c cl fp) (fun s H c cl fp => ?_) (fun s H c cl fp => ?_) h.hs) fun σ H Q q => comp_rdU h.hts q
  · exact ⟨fun pins s' σ H' Q I ⟨z, q⟩ => (h.ht s H c cl fp z).run pins s' σ H' Q I q⟩
  · exact ⟨fun pins s' σ H' Q I ⟨z, q⟩ => (h.he s H c cl fp z).run pins s' σ H' Q I q⟩
theorem set_lc (C : Cf X W sc N) (hk : sc.kind = .function) {i : Nat} {y : Str} {py spos : Pos} (hN : N[i]? = some y) (hy : lclB sc y = true) (hl : (py.line == pos.line) = true) (hnn : (scope.names.any fun (n, k) => n == y && (k == .local || k == .cell)) = false)
    (h : CompU X W sc N tg iter elt ifs scope own ts g it t e) (Γ : List Sl) : PS X (.Assign [.Name y py] (.ListComp elt [⟨tg, iter, ifs, 0⟩] scope pos) spos) (fun D σ H => rdF X W Γ (nComp (own.map (·.2)) g it t e Γ) Prod.fst Prod.snd σ H fun v H1 => D.nx (σ.set i (some v)) H1) := by
  have hB : BlkOk X.N X.env.scope scope own := by rw [C.hN, C.hsc]; exact blkOk_by h.ok
  have hyl : X.env.scope.names.lookup y = some .local := by
    rw [C.hsc]
    unfold lclB at hy
    split at hy
    · assumption
    · cases hy
  refine ps_imp (ps_setLc (g := fun v σ H Q => ∃ G Γ fr d Γ', Sta X.K G H σ Γ ∧ Dn X.K (rg G fr) H v d ∧ g fr d Γ = some Γ' ∧ ∀ σ' : St, List.length σ' = List.length σ → (∀ j, j ∉ ts → σ'[j]? = σ[j]?) → Sta X.K G H σ' Γ' → Q σ' H)
    (tt := fun σ H Q => ∃ Γ1, rdT X WF Γ1 (t Γ1) Prod.fst Prod.snd σ H Q) (te := fun σ H Q => ∃ Γ1, rdE X WF Γ1 (e Γ1) Prod.fst Prod.snd σ H Q)
    C.calm (by rw [C.hN]; exact C.nd) (by rw [C.hN]; exact hN) hyl (sw_true (by rw [C.hsc]; exact hk) hyl hl hnn) (h.hin Γ) hB (fun s H c cl fp => h.hg s H c cl fp) (fun s H c cl fp => ?_) (fun s H c cl fp => ?_) h.hs) fun D σ H q => comp_rdU h.hts q
  · exact ⟨fun pins s' σ H' Q I ⟨z, q⟩ => (h.ht s H c cl fp z).run pins s' σ H' Q I q⟩
  · exact ⟨fun pins s' σ H' Q I ⟨z, q⟩ => (h.he s H c cl fp z).run pins s' σ H' Q I q⟩
theorem c1_lcD (C : Cf X W sc N) (hk : sc.kind = .function) (i : Nat) {y : Str} {py spos : Pos} (hN : N[i]? = some y) (hy : lclB sc y = true) (h : CompU X W sc N tg iter elt ifs scope own ts g it t e) (hl : (py.line == pos.line) = true := by rfl) (hnn : (scope.names.any fun (n, k) => n == y && (k == .local || k == .cell)) = false := by decide +kernel) :
    C1 X W (.Assign [.Name y py] (.ListComp elt [⟨tg, iter, ifs, 0⟩] scope pos) spos) (bSet i (dOfN (nComp (own.map (·.2)) g it t e))) := fun Γ =>
  ps_imp (set_lc C hk hN hy hl hnn h Γ) fun D σ H ⟨G, S, p⟩ => by
    have p : Pst X W G H σ (((nComp (own.map (·.2)) g it t e Γ).bind fun z => .val (.d true (.list z.1), z.2)).bind fun z : AV × List Sl => (R.ofO (asSl z.1)).bind fun s => .val (Fw.nx, z.2.set i s)) (fun z G' H' => FinU X.K G' H' D z.2 z.1) := p
    rw [R.bind_assoc] at p
    refine ⟨G, S, (Pst.bind p).imp fun z G1 H1 e1 p1 q vs S1 hq hd => ?_⟩
    obtain ⟨G2, S2, e2, d2⟩ := (newc_lst hq hd).frz S1 rfl
    exact p1 G2 _ e2 _ (S2.put i d2)
end
end PD
set_option Elab.async false
set_option linter.all false
set_option maxRecDepth 100000
set_option maxHeartbeats 4000000
set_option autoImplicit false
namespace PD
open PySem L2
def cellL (Γ : List Sl) (i : Nat) : Option (Bool × List PyData) := match Γ[i]? with
  | some (.own (.lst ds)) => some (false, ds)
  | some (.io (.lst ds)) => some (true, ds)
  | _ => none
theorem cellL_ok {Γ : List Sl} {i : Nat} {z : Bool × List PyData} (h : cellL Γ i = some z) : Γ[i]? = some (mkS z.1 (.lst z.2)) := by
  unfold cellL at h
  split at h
  · cases h; exact ‹_›
  · cases h; exact ‹_›
  · cases h
section
variable {X : Cx} {W : WX} {sc : Scope} {N : List Str} {o e e2 : Expr} {es : List Expr} {apos cpos pos p : Pos} {k : DA} {f g : DF}
def dLm (i : Nat) (q : List PyData → List AV → R (PyData × List PyData)) (k : DA) : DF := fun Γ => (R.ofO (cellL Γ i)).bind fun _ => (k Γ).bind fun z => (R.ofO (cellL z.2 i)).bind fun c => (q c.2 z.1).bind fun y => .val (.d true y.1, z.2.set i (mkS c.1 (.lst y.2)))
theorem evp_cell (C : Cf0 X W sc N) {Γ : List Sl} {i : Nat} {x : Str} {io : Bool} {c : Cl} (h : Γ[i]? = some (mkS io c)) (hN : N[i]? = some x) (hv : visB sc x = true) (hd : (x == ("__debug__" : Str)) = false := by decide +kernel) (hcd : (x == ("__classdict__" : Str)) = false := by decide +kernel) : EvP X W Γ (.Name x p) (.s i) := by
  cases io with
  | true => exact evp_slot C (.inr (.inl h)) hN hv hd hcd
  | false => exact evp_slot C (.inl h) hN hv hd hcd
theorem ce_lm (C : Cf0 X W sc N) {name : Str} {id : String} {r : V → List V → Hp → VK → Prop} (q : List PyData → List AV → R (PyData × List PyData)) (slot : Slot "list" name id) (hty : typeOf (.builtin id) = pure (.type "method_descriptor")) (hm : MtR X id r)
    (hk : ∀ as ds G H σ p ws Q, H p = some (.lst ws) → DnA X.K (rg G true) H ws ds → (∀ vs, AVs X.K G H σ vs as → (∀ y, q ds as = .val y → ∃ ws' v, DnA X.K (rg G true) H ws' y.2 ∧ Dn X.K (rg G true) H v y.1 ∧ (Q v (upd H p (.lst ws')) → r (.ref p) vs H Q))))
    (i : Nat) {x : Str} (hN : N[i]? = some x) (hv : visB sc x = true) (ha : CA X W (e :: es) k) (hq : ∀ ds as z, q ds as ≠ .exc z)
    (hd : (x == ("__debug__" : Str)) = false := by decide +kernel) (hcd : (x == ("__classdict__" : Str)) = false := by decide +kernel)
    (hfew : ((backTo cpos (starEach (e :: es) X.env)).all (fun x => !x.1) && (backToKw cpos (keywordEach [] X.env)).all (fun x => x.1.isSome) && decide ((e :: es).length + ([] : List Keyword).length + (if ([] : List Keyword).isEmpty then 0 else 1) < 30)) = true := by rfl)
    (hline : (apos.endLine == cpos.line) = true := by rfl) (hs : starEach (e :: es) X.env = (false, eval e X.env) :: starEach es X.env := by rfl) (hplain : (backTo cpos (starEach es X.env)).any (·.1) = false := by rfl)
    (hbase : attributeBase (.Name x p) name X.env (eval (.Name x p) X.env) = eval (.Name x p) X.env := by rfl) :
    CE X W (.Call (.Attribute (.Name x p) name apos) (e :: es) [] cpos) (dLm i q k) := fun Γ => by
  unfold dLm
  cases h0 : cellL Γ i with
  | none => exact ev_bad
  | some c0 =>
    have ho := evp_cell (W := W) (p := p) C (cellL_ok h0) hN hv hd hcd
    refine pe_imp (pe_bm PySem.F.plainAttrs_list slot hty hm ho (ha Γ) hbase hfew hline hs hplain) fun σ H Q ⟨G, S, pp⟩ => ⟨G, S, fun G1 H1 e1 v S1 hx => ?_⟩
    obtain ⟨l, vs, g1, g2, g3, _⟩ := S1.chg i c0.1 (cellL_ok h0)
    have hx : σ[i]? = some (some v) := hx
    rw [g1] at hx
    cases hx
    have pp : Pst X W G H σ ((k Γ).bind fun z => (R.ofO (cellL z.2 i)).bind fun c => (q c.2 z.1).bind fun y => .val (AV.d true y.1, z.2.set i (mkS c.1 (.lst y.2)))) _ := pp
    refine ⟨.inl ⟨rfl, vs, SqL.of g2⟩, G1, S1, (Pst.bind (Pst.ext pp e1)).imp fun z G2 H2 e2 p2 ws S2 hw => ?_⟩
    obtain ⟨c, hc, p2⟩ := Pst.ofO p2
    obtain ⟨l', vs', k1, k2, k3, k4⟩ := S2.chg i c.1 (cellL_ok hc)
    rw [g1] at k1
    cases k1
    cases hy : q c.2 z.1 with
    | bad => rw [hy] at p2; exact p2.elim
    | exc z => exact absurd hy (hq _ _ _)
    | val y =>
      rw [hy] at p2
      obtain ⟨ws', v, m1, m2, m3⟩ := hk z.1 c.2 G2 H2 σ l vs' Q k2 k3 ws hw y hy
      obtain ⟨S3, e3⟩ := k4 ws' y.2 m1
      exact m3 (p2 G2 _ e3 v S3 (e3.dn m2))
theorem ce_lm0 (C : Cf0 X W sc N) {name : Str} {id : String} {r : V → List V → Hp → VK → Prop} (q : List PyData → List AV → R (PyData × List PyData)) (slot : Slot "list" name id) (hty : typeOf (.builtin id) = pure (.type "method_descriptor")) (hm : MtR X id r)
    (hk : ∀ ds G H p ws Q, H p = some (.lst ws) → DnA X.K (rg G true) H ws ds → (∀ y, q ds [] = .val y → ∃ ws' v, DnA X.K (rg G true) H ws' y.2 ∧ Dn X.K (rg G true) H v y.1 ∧ (Q v (upd H p (.lst ws')) → r (.ref p) [] H Q)))
    (i : Nat) {x : Str} (hN : N[i]? = some x) (hv : visB sc x = true) (hq : ∀ ds as z, q ds as ≠ .exc z)
    (hd : (x == ("__debug__" : Str)) = false := by decide +kernel) (hcd : (x == ("__classdict__" : Str)) = false := by decide +kernel)
    (hline : (apos.endLine == cpos.line) = true := by rfl) (hbase : attributeBase (.Name x p) name X.env (eval (.Name x p) X.env) = eval (.Name x p) X.env := by rfl) :
    CE X W (.Call (.Attribute (.Name x p) name apos) [] [] cpos) (dLm i q dA0) := fun Γ => by
  unfold dLm
  cases h0 : cellL Γ i with
  | none => exact ev_bad
  | some c0 =>
    have ho := evp_cell (W := W) (p := p) C (cellL_ok h0) hN hv hd hcd
    refine pe_imp (pe_bm0 PySem.F.plainAttrs_list slot hty hm ho hbase hline) fun σ H Q ⟨G, S, pp⟩ => ⟨G, S, fun G1 H1 e1 v S1 hx => ?_⟩
    obtain ⟨l, vs, g1, g2, g3, k4⟩ := S1.chg i c0.1 (cellL_ok h0)
    have hx : σ[i]? = some (some v) := hx
    rw [g1] at hx
    cases hx
    refine ⟨.inl ⟨rfl, vs, SqL.of g2⟩, ?_⟩
    have pp : Pst X W G H σ ((R.ofO (cellL Γ i)).bind fun c => (q c.2 []).bind fun y => .val (AV.d true y.1, Γ.set i (mkS c.1 (.lst y.2)))) _ := pp
    obtain ⟨c, hc, p2⟩ := Pst.ofO (Pst.ext pp e1)
    rw [h0] at hc
    cases hc
    cases hy : q c0.2 [] with
    | bad => rw [hy] at p2; exact p2.elim
    | exc z => exact absurd hy (hq _ _ _)
    | val y =>
      rw [hy] at p2
      obtain ⟨ws', v, m1, m2, m3⟩ := hk c0.2 G1 H1 l vs Q g2 g3 y hy
      obtain ⟨S3, e3⟩ := k4 ws' y.2 m1
      exact m3 (p2 G1 _ e3 v S3 (e3.dn m2))
def qAppend (ds : List PyData) : List AV → R (PyData × List PyData)
  | [.d true y] => gq (ltS ds) (.none, ds ++ [y])
  | _ => .bad
theorem gq_val {α : Type} {c : Bool} {a b : α} (h : gq c a = .val b) : c = true ∧ b = a := by
  cases c with
  | false => cases h
  | true => cases h; exact ⟨rfl, rfl⟩
theorem gq_nox {α : Type} {c : Bool} {a : α} {z : Exn} : gq c a ≠ .exc z := by cases c <;> intro h <;> cases h
theorem ce_append (C : Cf0 X W sc N) (i : Nat) {x : Str} (hN : N[i]? = some x) (hv : visB sc x = true) (ha : CE X W e f) (hs : starEach [e] X.env = (false, eval e X.env) :: starEach [] X.env := by rfl) (hd : (x == ("__debug__" : Str)) = false := by decide +kernel) (hcd : (x == ("__classdict__" : Str)) = false := by decide +kernel) (hline : (apos.endLine == cpos.line) = true := by rfl)
    (hbase : attributeBase (.Name x p) "append" X.env (eval (.Name x p) X.env) = eval (.Name x p) X.env := by rfl) : CE X W (.Call (.Attribute (.Name x p) "append" apos) [e] [] cpos) (dLm i qAppend (dAc (dFrz f) dA0)) := by
  refine ce_lm C qAppend PySem.F.slot_list_append PySem.F.type_list_append mt_append (fun as ds G H σ p ws Q hp hd vs av y hy => ?_) i hN hv (ca_cons (ce_frz ha) ca_nil hs) (fun ds as z h => ?_) hd hcd (by rw [hs]; rfl) hline hs rfl hbase
  · unfold qAppend at hy
    split at hy
    · rename_i z
      obtain ⟨hc, rfl⟩ := gq_val hy
      obtain ⟨v, rfl, hv⟩ := avs_one av
      have hv : Dn X.K (rg G true) H v z := hv
      exact ⟨ws ++ [v], .non, hd.append (.cons hv .nil), .non, fun q => ⟨p, ws, v, rfl, rfl, hp, by rw [hd.length]; exact of_decide_eq_true hc, q⟩⟩
    · cases hy
  · unfold qAppend at h
    split at h
    · exact gq_nox h
    · cases h
def insI {β : Type} (xs : List β) (n : Int) (y : β) : List β := xs.take n.toNat ++ [y] ++ xs.drop n.toNat
def cIns {β : Type} (xs : List β) (n : Int) : Bool := decide (xs.length < sizeLine) && decide (0 ≤ n ∧ n < 2 ^ 63)
def qInsert (ds : List PyData) : List AV → R (PyData × List PyData)
  | [.d _ (.int n), .d true y] => gq (cIns ds n) (.none, insI ds n y)
  | _ => .bad
def qPop (ds : List PyData) (_ : List AV) : R (PyData × List PyData) := (R.ofO ds.getLast?).bind fun y => .val (y, ds.dropLast)
theorem ce_pop (C : Cf0 X W sc N) (i : Nat) {x : Str} (hN : N[i]? = some x) (hv : visB sc x = true) (hd : (x == ("__debug__" : Str)) = false := by decide +kernel) (hcd : (x == ("__classdict__" : Str)) = false := by decide +kernel) (hline : (apos.endLine == cpos.line) = true := by rfl)
    (hbase : attributeBase (.Name x p) "pop" X.env (eval (.Name x p) X.env) = eval (.Name x p) X.env := by rfl) : CE X W (.Call (.Attribute (.Name x p) "pop" apos) [] [] cpos) (dLm i qPop dA0) := by
  refine ce_lm0 C qPop PySem.F.slot_list_pop PySem.F.type_list_pop mt_pop (fun ds G H p ws Q hp hd y hy => ?_) i hN hv (fun ds as z h => ?_) hd hcd hline hbase
  · unfold qPop at hy
    cases hl : ds.getLast? with
    | none => rw [hl] at hy; cases hy
    | some d =>
      rw [hl] at hy
      cases hy
      have hl2 : ds[ds.length - 1]? = some d := by rw [← List.getLast?_eq_getElem?]; exact hl
      obtain ⟨v, h1, h2⟩ := hd.get' hl2
      refine ⟨ws.dropLast, v, ?_, h2, fun q => ⟨p, ws, v, rfl, rfl, hp, by rw [hd.length]; exact h1, q⟩⟩
      rw [List.dropLast_eq_take, List.dropLast_eq_take, hd.length]
      exact hd.take _
  · unfold qPop at h
    cases hl : ds.getLast? <;> rw [hl] at h <;> cases h
def qPopAt (ds : List PyData) : List AV → R (PyData × List PyData)
  | [.d _ (.int n)] => (R.req (decide (-(2 ^ 63) ≤ n ∧ n < 2 ^ 63))).bind fun _ => (R.ofO (ixN ds.length n)).bind fun j => (R.ofO ds[j]?).bind fun y => .val (y, ds.eraseIdx j)
  | _ => .bad
end
end PD
set_option Elab.async false
set_option linter.all false
set_option maxRecDepth 100000
set_option maxHeartbeats 4000000
set_option autoImplicit false
namespace PD
open PySem L2
theorem Sta.chg1 {K : PySem.W.Frag} {G : Gh} {H : Hp} {σ : St} {Γ : List Sl} {c : Cl} (s : Sta K G H σ Γ) (i : Nat) (io : Bool) (hi : Γ[i]? = some (mkS io c)) :
    ∃ v fp, σ[i]? = some (some v) ∧ c.ok K (rg G true) H v fp ∧ ∀ p o o' c', fp = [p] → H p = some o → (∀ xs, o ≠ .tup xs) → (∀ x y, o ≠ .frz x y) → c'.ok K (rg G true) (upd H p o') v [p] → Sta K G (upd H p o') σ (Γ.set i (mkS io c')) ∧ Ext G H G (upd H p o') := by
  obtain ⟨A, S⟩ := s
  have key : ∃ v, σ[i]? = some (some v) ∧ c.ok K (RgN G) H v (A i) ∧ ∀ (H' : Hp) (c' : Cl) (fp' : List Addr), c'.ok K (RgN G) H' v fp' → (∀ p ∈ fp', p ∈ A i) → SlOk K G H' i σ[i]? fp' (mkS io c') := by
    cases io with
    | true =>
      obtain ⟨v, h1, h2, h3⟩ := S.sl i _ hi
      exact ⟨v, h1, h3, fun H' c' fp' k _ => ⟨v, h1, h2, k⟩⟩
    | false =>
      obtain ⟨v, h1, h2, h3⟩ := S.sl i _ hi
      exact ⟨v, h1, h3, fun H' c' fp' k q => ⟨v, h1, fun p hp => h2 p (q p hp), k⟩⟩
  obtain ⟨v, h1, hc, mk⟩ := key
  refine ⟨v, A i, h1, hc, fun p o o' c' hfp hp ht hz hc' => ?_⟩
  have hpA : p ∈ A i := by rw [hfp]; simp
  have hN : G.N p = none := (S.al i p hpA).2.1
  have g : Grow G H G.N (upd H p o') [p] := grow_mut S.w hp hN ht hz
  refine S.step (i := i) (fp' := [p]) (s' := mkS io c') (σ' := σ) g (fun q hq => ?_) (fun j hj => rfl) rfl (fun hlt => mk _ c' [p] hc' fun q hq => ?_) (fun q hq => ?_)
  · have : q = p := by simpa using hq
    rw [this]; exact hpA
  · have : q = p := by simpa using hq
    rw [this]; exact hpA
  · have : q = p := by simpa using hq
    rw [this]
    exact ⟨by rw [upd_same]; simp, hN, .inl hpA⟩
section
variable {X : Cx} {W : WX} {sc : Scope} {N : List Str} {a b e e2 o : Expr} {es : List Expr} {apos cpos pos p : Pos} {k : DA} {f g : DF} {s : Stmt}
theorem u1 (C : Cf0 X W sc N) : X.A.units + 1 < cLine := by have := C.hu2; omega
theorem u65 (C : Cf0 X W sc N) : X.A.units + 65 < cLine := by have := C.hu2; omega
theorem ce_insert (C : Cf0 X W sc N) (i : Nat) {x : Str} (hN : N[i]? = some x) (hv : visB sc x = true) (ha : CE X W e f) (hb : CE X W e2 g) (hs : starEach [e, e2] X.env = (false, eval e X.env) :: starEach [e2] X.env := by rfl) (hs2 : starEach [e2] X.env = (false, eval e2 X.env) :: starEach [] X.env := by rfl) (hd : (x == ("__debug__" : Str)) = false := by decide +kernel) (hcd : (x == ("__classdict__" : Str)) = false := by decide +kernel) (hline : (apos.endLine == cpos.line) = true := by rfl)
    (hbase : attributeBase (.Name x p) "insert" X.env (eval (.Name x p) X.env) = eval (.Name x p) X.env := by rfl) : CE X W (.Call (.Attribute (.Name x p) "insert" apos) [e, e2] [] cpos) (dLm i qInsert (dAc f (dAc (dFrz g) dA0))) := by
  refine ce_lm C qInsert PySem.F.slot_list_insert PySem.F.type_list_insert mt_insert (fun as ds G H σ p ws Q hp hd vs av y hy => ?_) i hN hv (ca_cons ha (ca_cons (ce_frz hb) ca_nil hs2) hs) (fun ds as z h => ?_) hd hcd (by rw [hs, hs2]; rfl) hline hs (by rw [hs2]; rfl) hbase
  · unfold qInsert at hy
    split at hy
    · rename_i n z
      obtain ⟨hc, rfl⟩ := gq_val hy
      obtain ⟨u, v, rfl, hu, hv⟩ := avs_two av
      have hv : Dn X.K (rg G true) H v z := hv
      unfold cIns at hc
      rw [Bool.and_eq_true] at hc
      have c2 : 0 ≤ n ∧ n < 2 ^ 63 := of_decide_eq_true hc.2
      exact ⟨_, .non, ((hd.take n.toNat).append (.cons hv .nil)).append (hd.drop n.toNat), .non, fun q => ⟨p, ws, n, v, rfl, by rw [dn_int hu], hp, by rw [hd.length]; exact of_decide_eq_true hc.1, c2.1, c2.2, q⟩⟩
    · cases hy
  · unfold qInsert at h
    split at h
    · exact gq_nox h
    · cases h
theorem ce_popAt (C : Cf0 X W sc N) (i : Nat) {x : Str} (hN : N[i]? = some x) (hv : visB sc x = true) (ha : CE X W e f) (hs : starEach [e] X.env = (false, eval e X.env) :: starEach [] X.env := by rfl) (hd : (x == ("__debug__" : Str)) = false := by decide +kernel) (hcd : (x == ("__classdict__" : Str)) = false := by decide +kernel) (hline : (apos.endLine == cpos.line) = true := by rfl)
    (hbase : attributeBase (.Name x p) "pop" X.env (eval (.Name x p) X.env) = eval (.Name x p) X.env := by rfl) : CE X W (.Call (.Attribute (.Name x p) "pop" apos) [e] [] cpos) (dLm i qPopAt (dAc f dA0)) := by
  refine ce_lm C qPopAt PySem.F.slot_list_pop PySem.F.type_list_pop mt_popAt (fun as ds G H σ p ws Q hp hd vs av y hy => ?_) i hN hv (ca_cons ha ca_nil hs) (fun ds as z h => ?_) hd hcd (by rw [hs]; rfl) hline hs rfl hbase
  · unfold qPopAt at hy
    split at hy
    · rename_i n
      obtain ⟨v, rfl, hv⟩ := avs_one av
      cases hc : decide (-(2 ^ 63) ≤ n ∧ n < 2 ^ 63) with
      | false => rw [hc] at hy; cases hy
      | true =>
        rw [hc] at hy
        have hc := of_decide_eq_true hc
        cases hx : ixN ds.length n with
        | none => rw [hx] at hy; cases hy
        | some j =>
          rw [hx] at hy
          cases hj : ds[j]? with
          | none =>
            have hy : ((R.ofO ds[j]?).bind fun y => R.val (y, ds.eraseIdx j)) = .val y := hy
            rw [hj] at hy
            cases hy
          | some d =>
            have hy : ((R.ofO ds[j]?).bind fun y => R.val (y, ds.eraseIdx j)) = .val y := hy
            rw [hj] at hy
            cases hy
            obtain ⟨w, w1, w2⟩ := hd.get' hj
            have er : ∀ {us : List V} {es : List PyData} (j : Nat), DnA X.K (rg G true) H us es → DnA X.K (rg G true) H (us.eraseIdx j) (es.eraseIdx j) := fun j h => by
              rw [List.eraseIdx_eq_take_drop_succ, List.eraseIdx_eq_take_drop_succ]
              exact (h.take _).append (h.drop _)
            exact ⟨ws.eraseIdx j, w, er j hd, w2, fun q => ⟨p, ws, n, j, w, rfl, by rw [dn_int hv], hp, hc.1, hc.2, by rw [hd.length]; exact (ixN_seq hx).1, w1, q⟩⟩
    · cases hy
  · unfold qPopAt at h
    split at h
    · rename_i n
      cases hc : decide (-(2 ^ 63) ≤ n ∧ n < 2 ^ 63) with
      | false => rw [hc] at h; cases h
      | true =>
        rw [hc] at h
        cases hx : ixN ds.length n with
        | none => rw [hx] at h; cases h
        | some j =>
          rw [hx] at h
          have h : ((R.ofO ds[j]?).bind fun y => R.val (y, ds.eraseIdx j)) = .exc z := h
          cases hj : ds[j]? <;> rw [hj] at h <;> cases h
    · cases h
def dExt (i : Nat) (n : DN) : DF := fun Γ => (R.ofO (cellL Γ i)).bind fun _ => (n Γ).bind fun z => (R.ofO (cellL z.2 i)).bind fun c => (R.req (szB (c.2 ++ z.1))).bind fun _ => .val (.d true .none, z.2.set i (mkS c.1 (.lst (c.2 ++ z.1))))
theorem ce_extend (C : Cf0 X W sc N) (i : Nat) {x : Str} {n : DN} (hN : N[i]? = some x) (hv : visB sc x = true) (ha : CN X W e n) (hs : starEach [e] X.env = (false, eval e X.env) :: starEach [] X.env := by rfl) (hd : (x == ("__debug__" : Str)) = false := by decide +kernel) (hcd : (x == ("__classdict__" : Str)) = false := by decide +kernel) (hline : (apos.endLine == cpos.line) = true := by rfl)
    (hbase : attributeBase (.Name x p) "extend" X.env (eval (.Name x p) X.env) = eval (.Name x p) X.env := by rfl) : CE X W (.Call (.Attribute (.Name x p) "extend" apos) [e] [] cpos) (dExt i n) := fun Γ => by
  unfold dExt
  cases h0 : cellL Γ i with
  | none => exact ev_bad
  | some c0 =>
    have ho := evp_cell (W := W) (p := p) C (cellL_ok h0) hN hv hd hcd
    refine pe_imp (pe_bm PySem.F.plainAttrs_list PySem.F.slot_list_extend PySem.F.type_list_extend mt_extend ho (pa_cons (ha Γ) pa_nil hs) hbase (by rw [hs]; rfl) hline hs rfl) fun σ H Q ⟨G, S, pp⟩ => ⟨G, S, fun G1 H1 e1 v S1 hx => ?_⟩
    obtain ⟨l, vs, g1, g2, g3, _⟩ := S1.chg i c0.1 (cellL_ok h0)
    have hx : σ[i]? = some (some v) := hx
    rw [g1] at hx
    cases hx
    have pp : Pst X W G H σ ((n Γ).bind fun z => (R.ofO (cellL z.2 i)).bind fun c => (R.req (szB (c.2 ++ z.1))).bind fun _ => .val (AV.d true .none, z.2.set i (mkS c.1 (.lst (c.2 ++ z.1))))) _ := pp
    refine ⟨.inl ⟨rfl, vs, SqL.of g2⟩, G1, S1, (Pst.bind (Pst.ext pp e1)).imp fun z G2 H2 e2 p2 q ws S2 hq hw => ?_⟩
    obtain ⟨c, hc, p2⟩ := Pst.ofO p2
    obtain ⟨hsz, p2⟩ := Pst.req p2
    obtain ⟨S3, e3⟩ := S2.grow (grow_own (o := .lst ws) S2.w hq)
    obtain ⟨l', vs', k1, k2, k3, k4⟩ := S3.chg i c.1 (cellL_ok hc)
    rw [g1] at k1
    cases k1
    obtain ⟨S4, e4⟩ := k4 (vs' ++ ws) (c.2 ++ z.1) (k3.append (e3.dna hw))
    refine ⟨l, q, vs', ws, rfl, rfl, k2, upd_same, ?_, p2 _ _ (e3.tr e4) .non S4 .non⟩
    have := of_decide_eq_true hsz
    rw [k3.length, hw.length]
    simpa using this
def rSetD : V → V → V → Hp → (Hp → Prop) → Prop := fun o i v H Q => ∃ a H', o = .ref a ∧ DPut H a i v H' ∧ Q H'
theorem set_dict (hu : X.A.units + 1 < cLine) : PSet X rSetD := by
  intro pins s σ H o i v ov iv u Q I ro ri rv h
  obtain ⟨a, H', rfl, g, q⟩ := h
  cases ro
  exact d_setItem hu I g ri rv fun s' I' => ⟨H', I', q⟩
theorem set_or {t1 t2 : V → V → V → Hp → (Hp → Prop) → Prop} (h1 : PSet X t1) (h2 : PSet X t2) : PSet X (fun o i v H Q => t1 o i v H Q ∨ t2 o i v H Q) := fun pins s σ H o i v ov iv u Q I ro ri rv h => h.elim (h1 pins s σ H o i v ov iv u Q I ro ri rv) (h2 pins s σ H o i v ov iv u Q I ro ri rv)
def dKey : PyData → Option Key
  | .int i => some (.inl i)
  | .str x => some (.inr x)
  | _ => none
def dKeys : List PyData → Option (List Key)
  | [] => some []
  | d :: ds => (dKey d).bind fun k => (dKeys ds).map (k :: ·)
theorem dKey_eq {d : PyData} {k : Key} (h : dKey d = some k) : d = keyD k := by
  cases d <;> simp only [dKey] at h <;> cases h <;> rfl
theorem dKey_ok {K : PySem.W.Frag} {G : Rg} {H : Hp} {v : V} {d : PyData} {k : Key} (h : dKey d = some k) (hv : Dn K G H v d) : v = kV k := by
  cases d <;> simp only [dKey] at h <;> cases h
  · exact dn_int hv
  · exact dn_str hv
theorem dKeys_ok {K : PySem.W.Frag} {G : Rg} {H : Hp} : ∀ {ds : List PyData} {ks : List Key} {vs : List V}, dKeys ds = some ks → DnA K G H vs ds → vs = ks.map kV
  | [], _, _, h, .nil => by cases h; rfl
  | d :: ds, ks, _, h, .cons q r => by
    unfold dKeys at h
    cases e : dKey d with
    | none => rw [e] at h; cases h
    | some k =>
      rw [e] at h
      have h : (dKeys ds).map (k :: ·) = some ks := h
      cases e2 : dKeys ds with
      | none => rw [e2] at h; cases h
      | some js =>
        rw [e2] at h
        cases h
        rw [dKey_ok e q, dKeys_ok e2 r]
        rfl
theorem dKeys_eq : ∀ {ds : List PyData} {ks : List Key}, dKeys ds = some ks → ds = ks.map keyD
  | [], _, h => by cases h; rfl
  | d :: ds, ks, h => by
    unfold dKeys at h
    cases e : dKey d with
    | none => rw [e] at h; cases h
    | some k =>
      rw [e] at h
      have h : (dKeys ds).map (k :: ·) = some ks := h
      cases e2 : dKeys ds with
      | none => rw [e2] at h; cases h
      | some js => rw [e2] at h; cases h; rw [dKey_eq e, dKeys_eq e2]; rfl
end
end PD
set_option Elab.async false
set_option linter.all false
set_option maxRecDepth 100000
set_option maxHeartbeats 4000000
set_option autoImplicit false
namespace PD
open PySem L2
theorem DnA.fresh {K : PySem.W.Frag} {G : Gh} {H : Hp} {fr : Bool} {vs : List V} {ds : List PyData} (h : DnA K (rg G fr) H vs ds) (hf : (fr || flat.flatA ds) = true) : DnA K (rg G true) H vs ds := by
  cases fr with
  | true => exact h
  | false => exact h.free (by simpa using hf)
section
variable {X : Cx} {W : WX} {sc : Scope} {N : List Str} {a b c e e2 o : Expr} {es : List Expr} {apos cpos pos p p2 : Pos} {k : DA} {f g : DF} {s : Stmt}
end
end PD
set_option Elab.async false
set_option linter.all false
set_option maxRecDepth 100000
set_option maxHeartbeats 4000000
set_option autoImplicit false
namespace PD
open PySem L2
mutual
def eqK : PyData → PyData → Bool
  | .int i, .int j => decide (i = j)
  | .str x, .str y => decide (x = y)
  | .tuple xs, .tuple ys => eqKs xs ys
  | _, _ => false
def eqKs : List PyData → List PyData → Bool
  | [], [] => true
  | x :: xs, y :: ys => eqK x y && eqKs xs ys
  | _, _ => false
end
theorem eqK_keyD (k k' : Key) : eqK (keyD k) (keyD k') = decide (k = k') := by
  cases k <;> cases k' <;> simp [keyD, eqK]
theorem eqKs_keyD : ∀ (k k' : List Key), eqKs (k.map keyD) (k'.map keyD) = decide (k = k')
  | [], [] => rfl
  | [], _ :: _ => by simp [eqKs]
  | _ :: _, [] => by simp [eqKs]
  | x :: xs, y :: ys => by
    simp only [List.map_cons, eqKs, eqK_keyD, eqKs_keyD xs ys, List.cons.injEq]
    by_cases h : x = y <;> by_cases h2 : xs = ys <;> simp [h, h2]
def kOk : Dk → PyData → Bool
  | .k, d => (dKey d).isSome
  | .t, .tuple ks => (dKeys ks).isSome
  | .t, _ => false
  | .n, _ => false
def getD (kvs : List (PyData × PyData)) (k : PyData) : Option PyData := (kvs.find? fun z => eqK z.1 k).map (·.2)
def putD (kvs : List (PyData × PyData)) (k v : PyData) : List (PyData × PyData) := if kvs.any (fun z => eqK z.1 k) then kvs.map (fun z => if eqK z.1 k then (z.1, v) else z) else kvs ++ [(k, v)]
def kindD : List (PyData × PyData) → Option Dk
  | (.int _, _) :: _ => some .k
  | (.str _, _) :: _ => some .k
  | (.tuple _, _) :: _ => some .t
  | _ => none
theorem kindD_ok {t : Dk} {o : HO} {vs : List V} {kvs : List (PyData × PyData)} {t' : Dk} (h : kindD kvs = some t') {a : Addr} (ho : DcO t a o (kvs.map (·.1)) vs) : t = t' := by
  cases t with
  | k =>
    obtain ⟨ks, rfl, h1, _⟩ := ho
    cases kvs with
    | nil => cases h
    | cons z r =>
      cases ks with
      | nil => cases h1
      | cons y s =>
        obtain ⟨d, v⟩ := z
        have h1 := (List.cons.inj h1).1
        have h1 : d = keyD y.1 := h1
        subst h1
        cases hy : y.1 <;> rw [hy] at h <;> cases h <;> rfl
  | t =>
    obtain ⟨ks, rfl, h1, _⟩ := ho
    cases kvs with
    | nil => cases h
    | cons z r =>
      cases ks with
      | nil => cases h1
      | cons y s =>
        obtain ⟨d, v⟩ := z
        have h1 := (List.cons.inj h1).1
        have h1 : d = .tuple (y.1.map keyD) := h1
        subst h1
        cases h
        rfl
  | n =>
    obtain ⟨rs, kds, _, _, _, h1, _⟩ := ho
    cases kvs with
    | nil => cases h
    | cons z r =>
      obtain ⟨d, v⟩ := z
      have h1 : d = PyData.none := (List.cons.inj h1).1
      subst h1
      cases h
section
variable {κ : Type} [DecidableEq κ] {K : PySem.W.Frag} {G : Rg} {H : Hp}
theorem get_rel {f : κ → PyData} (hf : ∀ a b, eqK (f a) (f b) = decide (a = b)) (k : κ) : ∀ {ks : List (κ × V)} {kvs : List (PyData × PyData)}, kvs.map (·.1) = ks.map (fun z => f z.1) → DnA K G H (ks.map (·.2)) (kvs.map (·.2)) →
    (valV ks k = none ∧ getD kvs (f k) = none) ∨ ∃ v d, valV ks k = some v ∧ getD kvs (f k) = some d ∧ Dn K G H v d
  | [], [], _, _ => .inl ⟨rfl, rfl⟩
  | [], _ :: _, h, _ => by cases h
  | _ :: _, [], h, _ => by cases h
  | (y, u) :: ks, (x, w) :: kvs, h, hd => by
    have h1 : x = f y := (List.cons.inj h).1
    have h2 := (List.cons.inj h).2
    obtain ⟨d1, d2⟩ : Dn K G H u w ∧ DnA K G H (ks.map (·.2)) (kvs.map (·.2)) := by cases hd; exact ⟨‹_›, ‹_›⟩
    subst h1
    by_cases e : y = k
    · subst e
      exact .inr ⟨u, w, by simp [valV], by simp [getD, hf], d1⟩
    · have e1 : valV ((y, u) :: ks) k = valV ks k := by simp [valV, List.find?_cons, e]
      have e2 : getD ((f y, w) :: kvs) (f k) = getD kvs (f k) := by simp [getD, List.find?_cons, hf, e]
      rw [e1, e2]
      exact get_rel hf k h2 d2
theorem any_rel {f : κ → PyData} (hf : ∀ a b, eqK (f a) (f b) = decide (a = b)) (k : κ) : ∀ {ks : List (κ × V)} {kvs : List (PyData × PyData)}, kvs.map (·.1) = ks.map (fun z => f z.1) → (kvs.any fun z => eqK z.1 (f k)) = ks.any fun z => decide (z.1 = k)
  | [], [], _ => rfl
  | [], _ :: _, h => by cases h
  | _ :: _, [], h => by cases h
  | (y, u) :: ks, (x, w) :: kvs, h => by
    have h1 : x = f y := (List.cons.inj h).1
    subst h1
    simp only [List.any_cons, hf, any_rel hf k (List.cons.inj h).2]
theorem rep_rel {f : κ → PyData} (hf : ∀ a b, eqK (f a) (f b) = decide (a = b)) (k : κ) {v : V} {d : PyData} (hv : Dn K G H v d) : ∀ {ks : List (κ × V)} {kvs : List (PyData × PyData)}, kvs.map (·.1) = ks.map (fun z => f z.1) → DnA K G H (ks.map (·.2)) (kvs.map (·.2)) →
    (kvs.map (fun z => if eqK z.1 (f k) then (z.1, d) else z)).map (·.1) = (ks.map (fun z => if z.1 = k then (z.1, v) else z)).map (fun z => f z.1) ∧ DnA K G H ((ks.map (fun z => if z.1 = k then (z.1, v) else z)).map (·.2)) ((kvs.map (fun z => if eqK z.1 (f k) then (z.1, d) else z)).map (·.2))
  | [], [], _, _ => ⟨rfl, .nil⟩
  | [], _ :: _, h, _ => by cases h
  | _ :: _, [], h, _ => by cases h
  | (y, u) :: ks, (x, w) :: kvs, h, hd => by
    have h1 : x = f y := (List.cons.inj h).1
    obtain ⟨d1, d2⟩ : Dn K G H u w ∧ DnA K G H (ks.map (·.2)) (kvs.map (·.2)) := by cases hd; exact ⟨‹_›, ‹_›⟩
    subst h1
    obtain ⟨i1, i2⟩ := rep_rel hf k hv (List.cons.inj h).2 d2
    by_cases e : y = k
    · subst e
      simp only [List.map_cons, hf, decide_true, if_true]
      exact ⟨by rw [i1], .cons hv i2⟩
    · simp only [List.map_cons, hf, e, decide_false, if_false, Bool.false_eq_true]
      exact ⟨by rw [i1], .cons d1 i2⟩
theorem put_rel {f : κ → PyData} (hf : ∀ a b, eqK (f a) (f b) = decide (a = b)) (k : κ) {v : V} {d : PyData} (hv : Dn K G H v d) {ks : List (κ × V)} {kvs : List (PyData × PyData)} (h : kvs.map (·.1) = ks.map (fun z => f z.1)) (hd : DnA K G H (ks.map (·.2)) (kvs.map (·.2))) :
    (putD kvs (f k) d).map (·.1) = (putK ks k v).map (fun z => f z.1) ∧ DnA K G H ((putK ks k v).map (·.2)) ((putD kvs (f k) d).map (·.2)) := by
  unfold putD putK
  rw [any_rel hf k h]
  by_cases e : (ks.any fun z => decide (z.1 = k)) = true
  · rw [if_pos e, if_pos e]
    exact rep_rel hf k hv h hd
  · rw [if_neg e, if_neg e]
    simp only [List.map_append, h, List.map_cons, List.map_nil, true_and]
    exact hd.append (.cons hv .nil)
end
theorem hfK : ∀ a b : Key, eqK (keyD a) (keyD b) = decide (a = b) := eqK_keyD
theorem hfT : ∀ a b : List Key, eqK (.tuple (a.map keyD)) (.tuple (b.map keyD)) = decide (a = b) := eqKs_keyD
theorem dget_rel {K : PySem.W.Frag} {G : Rg} {H : Hp} {a : Addr} {o : HO} {t : Dk} {vs : List V} {kvs : List (PyData × PyData)} {y : V} {k : PyData} {G' : Rg} (hr : Rd H a o) (ho : DcO t a o (kvs.map (·.1)) vs) (hd : DnA K G H vs (kvs.map (·.2))) (hk : kOk t k = true) (hy : Dn K G' H y k) :
    (DGet H a y none ∧ getD kvs k = none) ∨ ∃ v d, DGet H a y (some v) ∧ getD kvs k = some d ∧ Dn K G H v d := by
  cases t with
  | k =>
    obtain ⟨ks, rfl, h1, rfl⟩ := ho
    cases e : dKey k with
    | none => simp [kOk, e] at hk
    | some kk =>
      have hv := dKey_ok e hy
      have he := dKey_eq e
      subst hv he
      rcases get_rel (f := keyD) hfK kk h1 hd with ⟨g1, g2⟩ | ⟨v, d, g1, g2, g3⟩
      · exact .inl ⟨.inl ⟨ks, kk, hr, rfl, g1.symm⟩, g2⟩
      · exact .inr ⟨v, d, .inl ⟨ks, kk, hr, rfl, g1.symm⟩, g2, g3⟩
  | t =>
    obtain ⟨ks, rfl, h1, rfl⟩ := ho
    cases k <;> try (simp [kOk] at hk; done)
    rename_i xs
    cases e : dKeys xs with
    | none => simp [kOk, e] at hk
    | some kk =>
      obtain ⟨b, ws, rfl, hb, hw⟩ := dn_tupleH hy
      have hv := dKeys_ok e hw
      have he := dKeys_eq e
      subst hv he
      rcases get_rel (f := fun z : List Key => .tuple (z.map keyD)) hfT kk h1 hd with ⟨g1, g2⟩ | ⟨v, d, g1, g2, g3⟩
      · exact .inl ⟨.inr ⟨ks, kk, b, hr, rfl, hb, g1.symm⟩, g2⟩
      · exact .inr ⟨v, d, .inr ⟨ks, kk, b, hr, rfl, hb, g1.symm⟩, g2, g3⟩
  | n => cases hk
theorem dput_rel {K : PySem.W.Frag} {G : Rg} {H : Hp} {a : Addr} {o : HO} {t : Dk} {vs : List V} {kvs : List (PyData × PyData)} {y v : V} {k d : PyData} {G' : Rg} (hr : H a = some o) (ho : DcO t a o (kvs.map (·.1)) vs) (hd : DnA K G H vs (kvs.map (·.2))) (hk : kOk t k = true) (hy : Dn K G' H y k) (hv : Dn K G H v d) (hl : kvs.length < sizeLine) :
    ∃ o' vs', DPut H a y v (upd H a o') ∧ DcO t a o' ((putD kvs k d).map (·.1)) vs' ∧ DnA K G H vs' ((putD kvs k d).map (·.2)) := by
  cases t with
  | k =>
    obtain ⟨ks, rfl, h1, rfl⟩ := ho
    cases e : dKey k with
    | none => simp [kOk, e] at hk
    | some kk =>
      have hv' := dKey_ok e hy
      have he := dKey_eq e
      subst hv' he
      obtain ⟨p1, p2⟩ := put_rel (f := keyD) hfK kk hv h1 hd
      have hlen : ks.length = kvs.length := by have := congrArg List.length h1; simpa using this.symm
      exact ⟨_, _, .inl ⟨ks, kk, hr, rfl, by rw [hlen]; exact hl, rfl⟩, ⟨_, rfl, p1, rfl⟩, p2⟩
  | t =>
    obtain ⟨ks, rfl, h1, rfl⟩ := ho
    cases k <;> try (simp [kOk] at hk; done)
    rename_i xs
    cases e : dKeys xs with
    | none => simp [kOk, e] at hk
    | some kk =>
      obtain ⟨b, ws, rfl, hb, hw⟩ := dn_tupleH hy
      have hv' := dKeys_ok e hw
      have he := dKeys_eq e
      subst hv' he
      obtain ⟨p1, p2⟩ := put_rel (f := fun z : List Key => .tuple (z.map keyD)) hfT kk hv h1 hd
      have hlen : ks.length = kvs.length := by have := congrArg List.length h1; simpa using this.symm
      exact ⟨_, _, .inr ⟨ks, kk, b, hr, rfl, hb, by rw [hlen]; exact hl, rfl⟩, ⟨_, rfl, p1, rfl⟩, p2⟩
  | n => cases hk
end PD
set_option Elab.async false
set_option linter.all false
set_option maxRecDepth 100000
set_option maxHeartbeats 4000000
set_option autoImplicit false
namespace PD
open PySem L2
theorem dn_dict {K : PySem.W.Frag} {G : Rg} {H : Hp} {v : V} {kvs : List (PyData × PyData)} (h : Dn K G H v (.dict kvs)) {t0 : Dk} (hk : kindD kvs = some t0) : ∃ a o t vs, v = .ref a ∧ (∃ ob, G a (.frz ob o)) ∧ DcO t a o (kvs.map (·.1)) vs ∧ DnA K G H vs (kvs.map (·.2)) := by
  cases h with
  | dct h1 h2 h3 => exact ⟨_, _, _, _, rfl, h1, h2, h3⟩
  | exc _ _ _ _ => cases hk
  | exc0 _ => cases hk
  | ins _ _ _ _ => cases hk
  | dcu _ _ _ => cases hk
section
variable {X : Cx} {W : WX} {sc : Scope} {N : List Str} {a b c e e2 o : Expr} {es : List Expr} {apos cpos pos p p2 : Pos} {k : DA} {f g : DF} {s : Stmt}
def dicA (Γ : List Sl) : AV → Option (Bool × Dk × List (PyData × PyData))
  | .d fr (.dict kvs) => (kindD kvs).map fun t => (fr, t, kvs)
  | .s j => match Γ[j]? with
    | some (.own (.dic t kvs)) => some (true, t, kvs)
    | some (.io (.dic t kvs)) => some (true, t, kvs)
    | _ => none
  | _ => none
theorem dicA_ok {Γ : List Sl} {x : AV} {z : Bool × Dk × List (PyData × PyData)} {G : Gh} {H : Hp} {σ : St} {v : V} (h : dicA Γ x = some z) (S : Sta X.K G H σ Γ) (hv : AVok X.K G H σ v x) : ∃ l o vs, v = .ref l ∧ Rd H l o ∧ DcO z.2.1 l o (z.2.2.map (·.1)) vs ∧ DnA X.K (rg G z.1) H vs (z.2.2.map (·.2)) := by
  unfold dicA at h
  split at h
  · rename_i fr kvs
    cases hk : kindD kvs with
    | none => rw [hk] at h; cases h
    | some t =>
      rw [hk] at h
      cases h
      obtain ⟨l, o, t', vs, rfl, h1, h2, h3⟩ := dn_dict hv hk
      have := kindD_ok hk h2
      subst this
      exact ⟨l, o, vs, rfl, .inr (h1.imp fun _ z => S.w.rgl fr _ _ z), h2, h3⟩
  · rename_i j
    obtain ⟨A, T⟩ := S
    have hv : σ[j]? = some (some v) := hv
    split at h
    · cases h
      obtain ⟨u, h1, _, p, o, vs, rfl, _, h3, h4, h5⟩ := T.sl j _ ‹_›
      rw [h1] at hv
      cases hv
      exact ⟨p, o, vs, rfl, .inl h3, h4, h5⟩
    · cases h
      obtain ⟨u, h1, _, p, o, vs, rfl, _, h3, h4, h5⟩ := T.sl j _ ‹_›
      rw [h1] at hv
      cases hv
      exact ⟨p, o, vs, rfl, .inl h3, h4, h5⟩
    · cases h
  · cases h
theorem rdD_av {Γ : List Sl} {x : AV} {d : PyData} {G : Gh} {H : Hp} {σ : St} {v : V} (h : rdD Γ x = some d) (S : Sta X.K G H σ Γ) (hv : AVok X.K G H σ v x) : Dn X.K (RgH H) H v d := (rdD_ok h).ok S hv
def rIxD : R2 := fun x y H Q => ∃ a v, x = .ref a ∧ DGet H a y (some v) ∧ Q v H
theorem ix_dict (hu : X.A.units + 1 < cLine) : IxR X rIxD := by
  intro value slice pins s σ H x y v u Q I rx ry h hs
  obtain ⟨a, w, rfl, g, q⟩ := h
  cases rx
  exact PyProof.Rows.tail_any (dict_typeIs I g) PySem.F.slot_dict_getitem.lookup (d_getItem hu I g ry fun w' s' I' rw' => ⟨w, H, I', rw', q⟩) hs
def ixB (Γ : List Sl) (x y : AV) : R AV := match dicA Γ x with
  | some z => match y with
    | .d _ kk => (R.req (kOk z.2.1 kk)).bind fun _ => (R.ofO (getD z.2.2 kk)).bind fun d => .val (.d z.1 d)
    | _ => .bad
  | none => ixA Γ x y
def dIxB (f g : DF) : DF := fun Γ => (f Γ).bind fun x => (g x.2).bind fun y => (ixB y.2 x.1 y.1).bind fun z => .val (z, y.2)
theorem ce_ixB (C : Cf0 X W sc N) (ha : CE X W a f) (hb : CE X W b g) (hs : PlainIx b := by exact fun _ _ => rfl) : CE X W (.Subscript a b pos) (dIxB f g) := fun Γ =>
  pe_imp (pe_ix ((ix_dict (u1 C)).or ix_seq) (ha Γ) (pe_any fun x : AV × List Sl => hb x.2) hs) fun σ H Q h => bin_rd (X := X) (W := W) (ava := Prod.fst) (Γa := Prod.snd) (avb := fun _ (y : AV × List Sl) => y.1) (Γb := fun _ (y : AV × List Sl) => y.2) (avk := Prod.fst) (Γk := Prod.snd) (k := fun (x : AV × List Sl) (y : AV × List Sl) => (ixB y.2 x.1 y.1).bind fun z => .val (z, y.2)) (fun x y G H σ u v Q S hu hv p => by
    obtain ⟨x, Γ1⟩ := x
    obtain ⟨y, Γ2⟩ := y
    simp only at hu hv S p
    unfold ixB at p
    split at p
    · rename_i z hz
      split at p
      · rename_i fr kk
        have hk : kOk z.2.1 kk = true := by
          cases hc : kOk z.2.1 kk with
          | true => rfl
          | false => rw [hc] at p; exact p.elim
        rw [hk] at p
        have p : Pst X W G H σ (((R.ofO (getD z.2.2 kk)).bind fun d => R.val (AV.d z.1 d)).bind fun z => .val (z, Γ2)) (fun z G' H' => ∀ (w : V), Sta X.K G' H' σ z.snd → AVok X.K G' H' σ w z.fst → Q w H') := p
        obtain ⟨d, hd⟩ : ∃ d, getD z.2.2 kk = some d := by
          cases hc : getD z.2.2 kk with
          | none => rw [hc] at p; exact p.elim
          | some d => exact ⟨d, rfl⟩
        rw [hd] at p
        obtain ⟨l, o, vs, rfl, h1, h2, h3⟩ := dicA_ok hz S hu
        rcases dget_rel h1 h2 h3 hk hv with ⟨_, g2⟩ | ⟨w, d', g1, g2, g3⟩
        · rw [hd] at g2; cases g2
        · rw [hd] at g2; cases g2
          exact .inl ⟨l, w, rfl, g1, p G H (Ext.rf S.w) w S g3⟩
      · exact p.elim
    · rename_i hnone
      clear hnone
      refine .inr ?_
      unfold ixA at p
      split at p
      · rename_i fr ds _ i
        cases hz : atI ds i with
        | none => rw [hz] at p; exact p.elim
        | some d =>
          rw [hz] at p
          obtain ⟨q, xs, rfl, g1, g2⟩ := dn_list hu
          obtain ⟨w, g3, g4⟩ := atI_dn g2 hz
          exact .inl ⟨q, xs, i, w, rfl, dn_int hv, (g1.mono (S.w.rgl fr)).sq, g3, p G H (Ext.rf S.w) w S g4⟩
      · rename_i fr ds _ i
        cases hz : atI ds i with
        | none => rw [hz] at p; exact p.elim
        | some d =>
          rw [hz] at p
          obtain ⟨q, xs, rfl, g1, g2⟩ := dn_tuple hu
          obtain ⟨w, g3, g4⟩ := atI_dn g2 hz
          exact .inr (.inl ⟨q, xs, i, w, rfl, dn_int hv, g1, g3, p G H (Ext.rf S.w) w S g4⟩)
      · rename_i j _ i
        split at p
        · rename_i ds hd
          cases hz : atI ds i with
          | none => rw [hz] at p; exact p.elim
          | some d =>
            rw [hz] at p
            obtain ⟨q, xs, rfl, g1, g2⟩ := S.slotL hd hu
            obtain ⟨w, g3, g4⟩ := atI_dn g2 hz
            exact .inl ⟨q, xs, i, w, rfl, dn_int hv, SqL.of g1, g3, p G H (Ext.rf S.w) w S g4⟩
        · exact p.elim
      · exact p.elim) h
def rInD (neg : Bool) : R2 := fun y x H Q => ∃ a o, x = .ref a ∧ DGet H a y o ∧ Q (.bl (o.isSome != neg)) H
theorem op_inDict (hu : X.A.units + 1 < cLine) : OpR X (compareOp .In) (rInD false) := by
  intro pins s σ H x y v u Q I rx ry h
  obtain ⟨a, o, rfl, g, q⟩ := h
  cases ry
  exact d_in hu I g rx fun s' I' => ⟨.bl o.isSome, H, I', rfl, by rw [Bool.bne_false] at q; exact q⟩
theorem op_notInDict (hu : X.A.units + 1 < cLine) : OpR X (compareOp .NotIn) (rInD true) := by
  intro pins s σ H x y v u Q I rx ry h
  obtain ⟨a, o, rfl, g, q⟩ := h
  cases ry
  exact d_notIn hu I g rx fun s' I' => ⟨.bl (!o.isSome), H, I', rfl, by rw [Bool.bne_true] at q; exact q⟩
def kInB (Γ : List Sl) (x y : AV) : R Bool := match dicA Γ y with
  | some z => match rdD Γ x with
    | some kk => gq (kOk z.2.1 kk) (getD z.2.2 kk).isSome
    | none => .bad
  | none => kIn Γ x y
def kNinB (Γ : List Sl) (x y : AV) : R Bool := (kInB Γ x y).bind fun z => .val (!z)
theorem kInB_cases {G : Gh} {H : Hp} {σ : St} {Γ : List Sl} {x y : AV} {u v : V} (S : Sta X.K G H σ Γ) (hu : AVok X.K G H σ u x) (hv : AVok X.K G H σ v y) : kInB Γ x y = .bad ∨ ∃ z, kInB Γ x y = .val z ∧
    ((∃ l o, v = .ref l ∧ DGet H l u o ∧ z = o.isSome) ∨ (∃ d ds, Dp X.K H u d ∧ Dp X.K H v (.list ds) ∧ SeqAt.shaped d = true ∧ SeqAt.shaped (.list ds) = true ∧ z = ds.any fun z => PyData.eqv z d) ∨
     (∃ p xs, v = .ref p ∧ SqT X.K H p xs ∧ flatV u = true ∧ xs.all flatV = true ∧ z = inV u xs)) := by
  unfold kInB
  cases hz : dicA Γ y with
  | none =>
    rcases kIn_cases S hu hv with e | ⟨z, e, r⟩
    · exact .inl e
    · exact .inr ⟨z, e, .inr r⟩
  | some z =>
    cases hd : rdD Γ x with
    | none => exact .inl rfl
    | some kk =>
      cases hk : kOk z.2.1 kk with
      | false => left; simp only [hk]; rfl
      | true =>
        obtain ⟨l, o, vs, rfl, h1, h2, h3⟩ := dicA_ok hz S hv
        refine .inr ⟨(getD z.2.2 kk).isSome, by simp only [hk]; rfl, .inl ⟨l, ?_⟩⟩
        rcases dget_rel h1 h2 h3 hk (rdD_av hd S hu) with ⟨g1, g2⟩ | ⟨w, d', g1, g2, g3⟩
        · exact ⟨none, rfl, g1, by rw [g2]; rfl⟩
        · exact ⟨some w, rfl, g1, by rw [g2]; rfl⟩
theorem ce_inB (C : Cf0 X W sc N) (ha : CE X W a f) (hb : CE X W b g) (hm : behindInMarks .In b = false := by rfl) : CE X W (.Compare a [.In] [b] pos) (dCmp kInB f g) :=
  ce_cmp2 (fun x y Γ2 => boolR (kInB Γ2 x y) Γ2) (opR_or (op_inDict (u1 C)) (opR_or (op_inD (u65 C)) op_in_seq)) hm ha hb fun x y Γ2 G H σ u v Q S hu hv p => by
    rcases kInB_cases S hu hv with e | ⟨z, e, ⟨l, o, rfl, h1, rfl⟩ | ⟨d, ds, h1, h2, h3, h4, rfl⟩ | ⟨q, xs, rfl, h1, h2, h3, rfl⟩⟩
    · rw [e] at p; exact p.elim
    · rw [e] at p; exact .inl ⟨l, o, rfl, h1, by rw [Bool.bne_false]; exact Pk.v p S (.bl _)⟩
    · rw [e] at p; exact .inr (.inl ⟨d, ds, h1, h2, h3, h4, Pk.v p S (.bl _)⟩)
    · rw [e] at p; exact .inr (.inr ⟨q, xs, rfl, .inr h1, h2, h3, Pk.v p S (.bl _)⟩)
theorem ce_notinB (C : Cf0 X W sc N) (ha : CE X W a f) (hb : CE X W b g) (hm : behindInMarks .NotIn b = false := by rfl) : CE X W (.Compare a [.NotIn] [b] pos) (dCmp kNinB f g) :=
  ce_cmp2 (fun x y Γ2 => boolR (kNinB Γ2 x y) Γ2) (opR_or (op_notInDict (u1 C)) (opR_or (op_notInD (u65 C)) op_notIn_seq)) hm ha hb fun x y Γ2 G H σ u v Q S hu hv p => by
    unfold kNinB at p
    rcases kInB_cases S hu hv with e | ⟨z, e, ⟨l, o, rfl, h1, rfl⟩ | ⟨d, ds, h1, h2, h3, h4, rfl⟩ | ⟨q, xs, rfl, h1, h2, h3, rfl⟩⟩
    · rw [e] at p; exact p.elim
    · rw [e] at p; exact .inl ⟨l, o, rfl, h1, by rw [Bool.bne_true]; exact Pk.v p S (.bl _)⟩
    · rw [e] at p; exact .inr (.inl ⟨d, ds, h1, h2, h3, h4, Pk.v p S (.bl _)⟩)
    · rw [e] at p; exact .inr (.inr ⟨q, xs, rfl, .inr h1, h2, h3, Pk.v p S (.bl _)⟩)
def dic0 : Dk → List (PyData × PyData)
  | .n => [(.none, .none)]
  | _ => []
def nDic0 (t : Dk) : DC := fun Γ => .val (.dic t (dic0 t), Γ)
theorem cc_dic0 (t : Dk) : CC X W (.Dict [] [] pos) (nDic0 t) := fun Γ => by
  cases t with
  | k => exact pe_imp pe_dnewK fun σ H Q ⟨G, S, q⟩ p hp => q G H (Ext.rf S.w) _ _ S (newc_dic (o := .dK []) (vs := []) hp ⟨[], rfl, rfl, rfl⟩ .nil)
  | t => exact pe_imp pe_dnewT fun σ H Q ⟨G, S, q⟩ p hp => q G H (Ext.rf S.w) _ _ S (newc_dic (o := .dT []) (vs := []) hp ⟨[], rfl, rfl, rfl⟩ .nil)
  | n => exact pe_imp pe_dnewN fun σ H Q ⟨G, S, q⟩ p hp => q G H (Ext.rf S.w) _ _ S (newc_dic (o := NdO p []) (vs := [.non]) hp ⟨[], [], rfl, rfl, fun _ h => (nomatch h), rfl, rfl⟩ (.cons .non .nil))
def cellC (Γ : List Sl) (i : Nat) : Option (Bool × Cl) := match Γ[i]? with
  | some (.own c) => some (false, c)
  | some (.io c) => some (true, c)
  | _ => none
theorem cellC_ok {Γ : List Sl} {i : Nat} {z : Bool × Cl} (h : cellC Γ i = some z) : Γ[i]? = some (mkS z.1 z.2) := by
  unfold cellC at h
  split at h
  · cases h; exact ‹_›
  · cases h; exact ‹_›
  · cases h
def putC : Cl → PyData → PyData → Option Cl
  | .lst ds, .int k, v => (ixN ds.length k).map fun j => .lst (ds.set j v)
  | .dic t kvs, k, v => if kOk t k && decide (kvs.length < sizeLine) then some (.dic t (putD kvs k v)) else none
  | _, _, _ => none
theorem putC_cases {c c' : Cl} {k v : PyData} (h : putC c k v = some c') : (∃ ds k' j, c = .lst ds ∧ k = .int k' ∧ ixN ds.length k' = some j ∧ c' = .lst (ds.set j v)) ∨ ∃ t kvs, c = .dic t kvs ∧ kOk t k = true ∧ kvs.length < sizeLine ∧ c' = .dic t (putD kvs k v) := by
  unfold putC at h
  split at h
  · rename_i ds k'
    cases hj : ixN ds.length k' with
    | none => rw [hj] at h; cases h
    | some j => rw [hj] at h; cases h; exact .inl ⟨ds, k', j, rfl, rfl, hj, rfl⟩
  · rename_i t kvs
    split at h
    · rename_i hc
      cases h
      rw [Bool.and_eq_true] at hc
      exact .inr ⟨t, kvs, rfl, hc.1, of_decide_eq_true hc.2, rfl⟩
    · cases h
  · cases h
def bPut (i : Nat) (fe fi : DF) : DS := fun Γ => (dFrz fe Γ).bind fun z => (R.ofO (cellC z.2 i)).bind fun _ => (fi z.2).bind fun y => (R.ofO (cellC y.2 i)).bind fun c => match z.1, y.1 with
  | .d true v, .d _ kk => (R.ofO (putC c.2 kk v)).bind fun c' => .val (.nx, y.2.set i (mkS c.1 c'))
  | _, _ => .bad
theorem tup_mut {H : Hp} {p : Addr} {o o' : HO} (h : H p = some o) (ht : ∀ xs, o ≠ .tup xs) : TupLe H (upd H p o') := fun a xs e => by
  have : a ≠ p := fun q => by rw [q, h] at e; exact ht xs (Option.some.inj e)
  rw [upd_ne this]; exact e
theorem c1_put (C : Cf0 X W sc N) (i : Nat) {x : Str} {p' tpos : Pos} {fe fi : DF} (hN : N[i]? = some x) (hv : visB sc x = true) (he : CE X W e fe) (hi : CE X W b fi) (hd : (x == ("__debug__" : Str)) = false := by decide +kernel) (hcd : (x == ("__classdict__" : Str)) = false := by decide +kernel)
    (has : ∀ v, assign (.Subscript (.Name x p') b tpos) X.env v = (do
      let ov ← holding [v] (eval (.Name x p') X.env)
      let iv ← holding [v, ov] (eval b X.env)
      standAt tpos
      holding [v, ov, iv] (setItem ov iv v)
      release [v, ov, iv] []) := by intro _; rfl)
    (hs : swapsWithSole [.Subscript (.Name x p') b tpos] e pos.line X.env = pure false := by rfl) (hw : swappedStores [.Subscript (.Name x p') b tpos] e X.env = pure none := by rfl) (h1 : (assignEach [.Subscript (.Name x p') b tpos] X.env).map (·.2) = [assign (.Subscript (.Name x p') b tpos) X.env] := by rfl) :
    C1 X W (.Assign [.Subscript (.Name x p') b tpos] e pos) (bPut i fe fi) := fun Γ =>
  ps_imp (ps_asg (ce_frz he Γ) (pg_sub (pe_any fun z : {z : AV × List Sl // (cellC z.2 i).isSome} => evp_cell (W := W) (c := ((cellC z.1.2 i).get z.2).2) C (cellC_ok (Option.some_get _).symm) hN hv hd hcd) (pe_any fun z : AV × List Sl => hi z.2) (set_or set_list (set_dict (u1 C))) has) hs hw h1) fun D σ H ⟨G, S, p⟩ => ⟨G, S, (Pst.bind p).imp fun z G1 H1 e1 p1 v S1 a1 => by
    obtain ⟨c0, hc0, p1⟩ := Pst.ofO p1
    refine ⟨⟨z, by rw [hc0]; rfl⟩, G1, S1, fun G2 H2 e2 u S2 hu => ⟨z, G2, S2, (Pst.bind (Pst.ext p1 e2)).imp fun y G3 H3 e3 p3 w S3 hw3 => ?_⟩⟩
    obtain ⟨c, hc, p3⟩ := Pst.ofO p3
    have hu : σ[i]? = some (some u) := hu
    obtain ⟨u', fp, g1, g2, g3⟩ := S3.chg1 i c.1 (cellC_ok hc)
    rw [hu] at g1
    cases g1
    have a1 := a1.ext (e2.tr e3)
    split at p3
    · rename_i vd fr kk hz hy
      rw [hz] at a1
      rw [hy] at hw3
      obtain ⟨c', hc', p3⟩ := Pst.ofO p3
      have a1 : Dn X.K (rg G3 true) H3 v vd := a1
      have hw3 : Dn X.K (rg G3 fr) H3 w kk := hw3
      have fin : ∀ H4, Sta X.K G3 H4 σ (y.2.set i (mkS c.1 c')) ∧ Ext G3 H3 G3 H4 → D.nx σ H4 := fun H4 ⟨S4, e4⟩ => p3 G3 H4 e4 σ S4
      obtain ⟨io, cc⟩ := c
      have g2 : cc.ok X.K (rg G3 true) H3 u fp := g2
      rcases putC_cases hc' with ⟨ds, k', j, e1, rfl, hj, rfl⟩ | ⟨t, kvs, e1, hk, hl, rfl⟩
      · have e1 : cc = .lst ds := e1
        subst e1
        obtain ⟨q, vs, rfl, hfp, hq, hd'⟩ := g2
        refine .inl ⟨q, vs, k', j, rfl, dn_int hw3, hq, by rw [hd'.length]; exact hj, fin _ (g3 q _ _ _ hfp hq (fun _ h => by cases h) (fun _ _ h => by cases h) ⟨q, _, rfl, rfl, upd_same, ?_⟩)⟩
        exact (DnA.set a1 j hd').mono (fun _ _ z => z) (tup_mut hq (fun _ h => by cases h))
      · have e1 : cc = .dic t kvs := e1
        subst e1
        obtain ⟨q, o, vs, rfl, hfp, hq, ho, hd'⟩ := g2
        obtain ⟨o', vs', k1, k2, k3⟩ := dput_rel hq ho hd' hk hw3 a1 hl
        have nt : (∀ xs, o ≠ .tup xs) ∧ ∀ x y, o ≠ .frz x y := by
          cases t with
          | k => obtain ⟨_, rfl, _⟩ := ho; exact ⟨fun _ h => (by cases h), fun _ _ h => (by cases h)⟩
          | t => obtain ⟨_, rfl, _⟩ := ho; exact ⟨fun _ h => (by cases h), fun _ _ h => (by cases h)⟩
          | n => cases hk
        exact .inr ⟨q, _, rfl, k1, fin _ (g3 q _ _ _ hfp hq nt.1 nt.2 ⟨q, o', vs', rfl, rfl, upd_same, k2, k3.mono (fun _ _ z => z) (tup_mut hq nt.1)⟩)⟩
    · exact p3.elim⟩
end
end PD
set_option Elab.async false
set_option linter.all false
set_option maxRecDepth 100000
set_option maxHeartbeats 4000000
set_option autoImplicit false
namespace PD
open PySem L2
section
variable {X : Cx} {W : WX} {sc : Scope} {N : List Str} {a b c e e2 e3 o tg : Expr} {es : List Expr} {apos cpos pos p p1 p2 p3 : Pos} {k : DA} {f g h : DF} {s : Stmt}
def intS : Option Sl → Option Int
  | some (.dat _ (.int i)) => some i
  | _ => none
def bInc (i : Nat) (fe : DF) : DS := fun Γ => (R.ofO (intS Γ[i]?)).bind fun n => (fe Γ).bind fun z => (R.ofO (intA z.1)).bind fun m => .val (.nx, z.2.set i (.dat true (.int (n + m))))
end
end PD
set_option Elab.async false
set_option linter.all false
set_option maxRecDepth 100000
set_option maxHeartbeats 4000000
set_option autoImplicit false
namespace PD
open PySem L2
theorem Sta.feed {K : PySem.W.Frag} {G : Gh} {H : Hp} {σ : St} {Γ : List Sl} {f : Fd} (S : Sta K G H σ Γ) (i : Nat) (io : Bool) (hi : Γ[i]? = some (mkS io (.feed f))) :
    ∃ d l, σ[i]? = some (some (.ref d)) ∧ d ≠ l ∧ H d = some (.dK (fdK l f.2.1 f.2.2)) ∧ H l = some (.lst (f.1.map V.int)) ∧
      (∀ t s, Sta K G (upd H d (.dK (fdK l t s))) σ (Γ.set i (mkS io (.feed (f.1, t, s)))) ∧ Ext G H G (upd H d (.dK (fdK l t s)))) ∧
      (∀ ns : List Int, Sta K G (upd H l (.lst (ns.map V.int))) σ (Γ.set i (mkS io (.feed (ns, f.2)))) ∧ Ext G H G (upd H l (.lst (ns.map V.int)))) ∧
      (∀ l' (ns : List Int), H l' = none → Sta K G (upd (upd H l' (.lst (ns.map V.int))) d (.dK (fdK l' f.2.1 f.2.2))) σ (Γ.set i (mkS io (.feed (ns, f.2)))) ∧ Ext G H G (upd (upd H l' (.lst (ns.map V.int))) d (.dK (fdK l' f.2.1 f.2.2)))) := by
  obtain ⟨A, T⟩ := S
  have hlt : i < Γ.length := (List.getElem?_eq_some_iff.mp hi).1
  have key : ∃ d l, σ[i]? = some (some (.ref d)) ∧ A i = [d, l] ∧ d ≠ l ∧ H d = some (.dK (fdK l f.2.1 f.2.2)) ∧ H l = some (.lst (f.1.map V.int)) ∧
      ∀ (G' : Gh) (H' : Hp) (f' : Fd) (fp' : List Addr), G'.I = G.I → G'.H0 = G.H0 → (Cl.feed f').ok K (RgN G') H' (.ref d) fp' → (∀ p ∈ fp', p ∈ A i ∨ G.H0 p = none) → SlOk K G' H' i σ[i]? fp' (mkS io (.feed f')) := by
    have hs := T.sl i _ hi
    cases io with
    | true =>
      obtain ⟨v, h1, h2, d, l, rfl, h3, h4, h5, h6⟩ := hs
      exact ⟨d, l, h1, h3, h4, h5, h6, fun G' H' f' fp' gi _ ok _ => ⟨_, h1, by rw [gi]; exact h2, ok⟩⟩
    | false =>
      obtain ⟨v, h1, h2, d, l, rfl, h3, h4, h5, h6⟩ := hs
      refine ⟨d, l, h1, h3, h4, h5, h6, fun G' H' f' fp' _ g0 ok hp => ⟨_, h1, fun p hp' => ?_, ok⟩⟩
      rw [g0]
      rcases hp p hp' with q | q
      · exact h2 p q
      · exact q
  obtain ⟨d, l, h1, hA, hne, hd, hl, mk⟩ := key
  have ad := T.al i d (by rw [hA]; simp)
  have al := T.al i l (by rw [hA]; simp)
  refine ⟨d, l, h1, hne, hd, hl, fun t s => ?_, fun ns => ?_, fun l' ns hl' => ?_⟩
  · refine T.step (i := i) (fp' := [d, l]) (grow_mut T.w hd ad.2.1 (fun _ => by simp) (fun _ _ => by simp)) (fun p hp => by rw [hA]; simp at hp; simp [hp]) (fun _ _ => rfl) rfl (fun _ => mk _ _ _ _ rfl rfl ⟨d, l, rfl, rfl, hne, upd_same, by rw [upd_ne (Ne.symm hne)]; exact hl⟩ fun p hp => .inl (by rw [hA]; exact hp)) (fun p hp => ?_)
    simp only [List.mem_cons, List.not_mem_nil, or_false] at hp
    rcases hp with rfl | rfl
    · exact ⟨by rw [upd_same]; simp, ad.2.1, .inl (by rw [hA]; simp)⟩
    · exact ⟨by rw [upd_ne (Ne.symm hne), hl]; simp, al.2.1, .inl (by rw [hA]; simp)⟩
  · refine T.step (i := i) (fp' := [d, l]) (grow_mut T.w hl al.2.1 (fun _ => by simp) (fun _ _ => by simp)) (fun p hp => by rw [hA]; simp at hp; simp [hp]) (fun _ _ => rfl) rfl (fun _ => mk _ _ _ _ rfl rfl ⟨d, l, rfl, rfl, hne, by rw [upd_ne hne]; exact hd, upd_same⟩ fun p hp => .inl (by rw [hA]; exact hp)) (fun p hp => ?_)
    simp only [List.mem_cons, List.not_mem_nil, or_false] at hp
    rcases hp with rfl | rfl
    · exact ⟨by rw [upd_ne hne, hd]; simp, ad.2.1, .inl (by rw [hA]; simp)⟩
    · exact ⟨by rw [upd_same]; simp, al.2.1, .inl (by rw [hA]; simp)⟩
  · obtain ⟨fN, f0, _⟩ := T.w.fresh hl'
    have hdl : d ≠ l' := fun e => by rw [e, hl'] at hd; cases hd
    have g : Grow G H G.N (upd (upd H l' (.lst (ns.map V.int))) d (.dK (fdK l' f.2.1 f.2.2))) [d] := by
      refine ⟨fun a x e hp => ?_, fun a ha => ?_, fun a xs e => ?_, fun _ _ e => e, fun a x e => ⟨?_, .inl e⟩⟩
      · have h2 : a ≠ d := by simpa using hp
        have h3 : a ≠ l' := fun q => by rw [q, hl'] at e; cases e
        rw [upd_ne h2, upd_ne h3]; exact e
      · have : a = d := by simpa using ha
        rw [this, upd_same]; simp
      · have h3 : a ≠ l' := fun q => by rw [q, hl'] at e; cases e
        have h2 : a ≠ d := fun q => by rw [q, hd] at e; cases e
        rw [upd_ne h2, upd_ne h3]; exact e
      · have h2 : a ≠ d := fun q => by rw [q, ad.2.1] at e; cases e
        have h3 : a ≠ l' := fun q => by rw [q, fN] at e; cases e
        rw [upd_ne h2, upd_ne h3]; exact (T.w.new a x e).1
    refine T.step (i := i) (fp' := [d, l']) g (fun p hp => by rw [hA]; simp at hp; simp [hp]) (fun _ _ => rfl) rfl (fun _ => mk _ _ _ _ rfl rfl ⟨d, l', rfl, rfl, hdl, upd_same, by rw [upd_ne (Ne.symm hdl), upd_same]⟩ fun p hp => ?_) (fun p hp => ?_)
    · simp only [List.mem_cons, List.not_mem_nil, or_false] at hp
      rcases hp with rfl | rfl
      · exact .inl (by rw [hA]; simp)
      · exact .inr f0
    · simp only [List.mem_cons, List.not_mem_nil, or_false] at hp
      rcases hp with rfl | rfl
      · exact ⟨by rw [upd_same]; simp, ad.2.1, .inl (by rw [hA]; simp)⟩
      · exact ⟨by rw [upd_ne (Ne.symm hdl), upd_same]; simp, fN, .inr hl'⟩
structure EqT {α : Type} [DecidableEq α] (enc : α → PyData) (k : Nat) : Prop where
  lay : ∀ x, (enc x).canLay0 = true
  dep : ∀ x, (enc x).depth ≤ k
  eq : ∀ x y, PyData.eqv (enc x) (enc y) = decide (x = y)
theorem eqt_int : EqT PyData.int 0 := ⟨fun _ => rfl, fun _ => Nat.le_refl _, fun x y => by show (x == y) = _; rfl⟩
section
variable {α β γ : Type} [DecidableEq α] [DecidableEq β] [DecidableEq γ] {e1 : α → PyData} {e2 : β → PyData} {e3 : γ → PyData} {k k2 k3 : Nat}
theorem EqT.layA (h : EqT e1 k) : ∀ xs : List α, PyData.canLayAll0 (xs.map e1) = true
  | [] => rfl
  | x :: xs => by simp [PyData.canLayAll0, h.lay x, EqT.layA h xs]
theorem EqT.depA (h : EqT e1 k) : ∀ xs : List α, PyData.depthAll (xs.map e1) ≤ k
  | [] => Nat.zero_le _
  | x :: xs => by
    have a := h.dep x
    have b := EqT.depA h xs
    simp only [List.map_cons, PyData.depthAll]
    omega
theorem EqT.eqA (h : EqT e1 k) : ∀ xs ys : List α, PyData.eqvAll (xs.map e1) (ys.map e1) = decide (xs = ys)
  | [], [] => rfl
  | [], y :: ys => by simp [PyData.eqvAll]
  | x :: xs, [] => by simp [PyData.eqvAll]
  | x :: xs, y :: ys => by simp [PyData.eqvAll, h.eq x y, EqT.eqA h xs ys]
theorem eqt_list (h : EqT e1 k) : EqT (fun xs : List α => PyData.list (xs.map e1)) (k + 1) :=
  ⟨fun xs => by simpa [PyData.canLay0] using h.layA xs, fun xs => by simpa [PyData.depth] using h.depA xs, fun xs ys => by simpa [PyData.eqv] using h.eqA xs ys⟩
theorem eqt_tup (h : EqT e1 k) : EqT (fun xs : List α => PyData.tuple (xs.map e1)) (k + 1) :=
  ⟨fun xs => by simpa [PyData.canLay0] using h.layA xs, fun xs => by simpa [PyData.depth] using h.depA xs, fun xs ys => by simpa [PyData.eqv] using h.eqA xs ys⟩
theorem EqT.sh (h : EqT e1 k) (hk : k ≤ 64) (x : α) : SeqAt.shaped (e1 x) = true := by
  unfold SeqAt.shaped
  rw [h.lay x, Bool.true_and]
  exact decide_eq_true (Nat.le_trans (h.dep x) hk)
end
section
variable {X : Cx} {W : WX} {sc : Scope} {N : List Str} {e : Expr} {pos p p2 p3 : Pos} {x : Str} {fe : DF}
theorem pe_nm (C : Cf0 X W sc N) {i : Nat} {x : Str} {pos : Pos} (hN : N[i]? = some x) (hv : visB sc x = true) (hd : (x == ("__debug__" : Str)) = false := by decide +kernel) (hcd : (x == ("__classdict__" : Str)) = false := by decide +kernel) : PE X (.Name x pos) (tVar i) :=
  pe_var (i := i) (by rw [C.hN]; exact hN) (by rw [C.hsc]; exact vis_of hv) hd hcd
end
end PD
set_option Elab.async false
set_option linter.all false
set_option maxRecDepth 100000
set_option maxHeartbeats 4000000
set_option autoImplicit false
namespace PD
open PySem L2
section
variable {X : Cx} {W : WX} {sc : Scope} {N : List Str} {pos : Pos} {x : Str}
end
end PD
set_option Elab.async false
set_option linter.all false
set_option maxRecDepth 100000
set_option maxHeartbeats 4000000
set_option autoImplicit false
namespace PD
open PySem L2
def Gv (P : Program) (w : World) (K : PySem.W.Frag) (mg : Str → Option Value) (base : Heap) (k : Nat) (x : Str) (dvs : List V) (sp : Sp) : Prop :=
  ∃ (f : Addr) (fd : FuncData) (ps : List Str) (ds : List Value), FnOk P w K mg base (L2.CX P w) k f fd ps sp ∧ mg x = some (.ref f) ∧ PySem.W.keepIn K (.ref f) = true ∧ Binds K fd ps ds ∧ Vals dvs ds
theorem Gv.clee {P : Program} {w : World} {K : PySem.W.Frag} {mg : Str → Option Value} {base : Heap} {k k' : Nat} {x : Str} {dvs : List V} {sp : Sp} {X : Cx} {W : WX} {scope : Scope} {N : List Str} (g : Gv P w K mg base k x dvs sp) (h : Here X W P w K mg base scope N k') (hk : k ≤ k') : Clee X x dvs sp := by
  obtain ⟨f, fd, ps, ds, h1, h2, h3, h4, h5⟩ := g
  refine ⟨k, f, fd, ps, ds, ?_, h.room.mono hk, ?_, ?_, ?_, h5⟩
  · rw [h.prog, h.w, h.K, h.mg, h.base]; exact h1
  · rw [h.mg]; exact h2
  · rw [h.K]; exact h3
  · rw [h.K]; exact h4
theorem Gv.of {P : Program} {w : World} {K : PySem.W.Frag} {mg : Str → Option Value} {base : Heap} {k : Nat} {x x' qual : Str} {params : Arguments} {body : List Stmt} {scope : Scope} {dvs : List V} {kws : List (Str × V)} {f : Addr} {fd : FuncData} {ps : List Str} {dv : List V} {ds : List Value} {sp : Sp}
    (F : FunD K x qual params body scope dvs kws f fd) (hm : mg x' = some (.ref f)) (ok : FnOk P w K mg base (L2.CX P w) k f fd ps sp) (b : Binds K fd ps ds) (hv : Vals dv ds) : Gv P w K mg base k x' dv sp := ⟨f, fd, ps, ds, ok, hm, F.kp, b, hv⟩
section
variable {X : Cx} {W : WX} {sc : Scope} {N : List Str} {a b c e : Expr} {es : List Expr} {pos p : Pos} {Γ : List Sl}
def GvK (P : Program) (w : World) (K : PySem.W.Frag) (mg : Str → Option Value) (base : Heap) (k : Nat) (x : Str) (n : Nat) (ks : List Str) (dvs : List V) (sp : Sp) : Prop :=
  ∃ (f : Addr) (fd : FuncData) (ps : List Str) (its : List Value), FnOk P w K mg base (L2.CX P w) k f fd ps sp ∧ mg x = some (.ref f) ∧ PySem.W.keepIn K (.ref f) = true ∧ KBn K fd ps n ks (fun us ws => us ++ ws ++ its) (fun vs zs => vs ++ zs ++ dvs)
def CleeK (X : Cx) (x : Str) (n : Nat) (ks : List Str) (dvs : List V) (sp : Sp) : Prop :=
  ∃ (k : Nat) (f : Addr) (fd : FuncData) (ps : List Str) (its : List Value), FnOk X.prog X.w X.K X.mg X.base (L2.CX X.prog X.w) k f fd ps sp ∧ Room k X.A ∧ X.mg x = some (.ref f) ∧ PySem.W.keepIn X.K (.ref f) = true ∧ KBn X.K fd ps n ks (fun us ws => us ++ ws ++ its) (fun vs zs => vs ++ zs ++ dvs)
theorem GvK.clee {P : Program} {w : World} {K : PySem.W.Frag} {mg : Str → Option Value} {base : Heap} {k k' : Nat} {x : Str} {n : Nat} {ks : List Str} {dvs : List V} {sp : Sp} {scope : Scope} (g : GvK P w K mg base k x n ks dvs sp) (h : Here X W P w K mg base scope N k') (hk : k ≤ k') : CleeK X x n ks dvs sp := by
  obtain ⟨f, fd, ps, its, g1, g2, g3, g4⟩ := g
  refine ⟨k, f, fd, ps, its, ?_, h.room.mono hk, ?_, ?_, ?_⟩
  · rw [h.prog, h.w, h.K, h.mg, h.base]; exact g1
  · rw [h.mg]; exact g2
  · rw [h.K]; exact g3
  · rw [h.K]; exact g4
theorem CleeK.blk {x : Str} {n : Nat} {ks : List Str} {dvs : List V} {sp : Sp} (h : CleeK X x n ks dvs sp) {s : Shared} {H : Hp} {scope : Scope} {ce : Env} {fp : List Addr} : CleeK (X.blk s H scope ce fp) x n ks dvs sp := h
theorem Gv.u {P : Program} {w : World} {K : PySem.W.Frag} {mg : Str → Option Value} {base : Heap} {k k' : Nat} {x : Str} {dvs : List V} {m : List Ar → R (Rs × List Sl)} {scope : Scope} (g : Gv P w K mg base k x dvs (spU K mg m)) (h : Here X W P w K mg base scope N k') (hk : k ≤ k') : Clee X x dvs (spU X.K X.mg m) := by
  have := g.clee h hk
  rw [h.K, h.mg]
  exact this
theorem GvK.u {P : Program} {w : World} {K : PySem.W.Frag} {mg : Str → Option Value} {base : Heap} {k k' : Nat} {x : Str} {n : Nat} {ks : List Str} {dvs : List V} {m : List Ar → R (Rs × List Sl)} {scope : Scope} (g : GvK P w K mg base k x n ks dvs (spU K mg m)) (h : Here X W P w K mg base scope N k') (hk : k ≤ k') : CleeK X x n ks dvs (spU X.K X.mg m) := by
  have := g.clee h hk
  rw [h.K, h.mg]
  exact this
section
variable {x : Str} {dvs : List V} {dds : List PyData} {m : List Ar → R (Rs × List Sl)} {kws : List Keyword} {ks : List Str} {n : Nat} {k kk : DA}
theorem AVs.append {K : PySem.W.Frag} {G : Gh} {H : Hp} {σ : St} : ∀ {vs us : List V} {as bs : List AV}, AVs K G H σ vs as → AVs K G H σ us bs → AVs K G H σ (vs ++ us) (as ++ bs)
  | _, _, _, _, .nil, h => h
  | _, _, _, _, .cons q r, h => .cons q (AVs.append r h)
end
end
end PD
set_option Elab.async false
set_option linter.all false
set_option maxRecDepth 100000
set_option maxHeartbeats 4000000
set_option autoImplicit false
namespace PD
open PySem L2
abbrev DX := List Sl → R (Rs × List Sl)
def FinX (K : PySem.W.Frag) (G : Gh) (H : Hp) (σ : St) (Γ : List Sl) (Q : VK) : Rs → Prop
  | .d x => ∀ v, Sta K G H σ Γ → Dn K (rg G true) H v x → Q v H
  | .c c => ∀ v H2, Sta K G H σ Γ → NewC K (rg G true) H c v H2 → Q v H2
def rdX (X : Cx) (W : WX) (Γ : List Sl) (m : R (Rs × List Sl)) : TE := fun σ H Q => ∃ G, Sta X.K G H σ Γ ∧ Pst X W G H σ m fun r G' H' => FinX X.K G' H' σ r.2 Q r.1
def CX (X : Cx) (W : WX) (e : Expr) (f : DX) : Prop := ∀ Γ, PE X e (rdX X W Γ (f Γ))
section
variable {X : Cx} {W : WX} {sc : Scope} {N : List Str} {e : Expr} {es : List Expr} {pos p : Pos} {x : Str} {dvs : List V} {dds : List PyData} {m : List Ar → R (Rs × List Sl)} {kws : List Keyword} {ks : List Str} {n : Nat} {k kk : DA} {f : DX}
def xC (n : DC) : DX := fun Γ => (n Γ).bind fun z => .val (.c z.1, z.2)
theorem cx_c {n : DC} (h : CC X W e n) : CX X W e (xC n) := fun Γ => pe_imp (h Γ) fun σ H Q ⟨G, S, q⟩ => ⟨G, S, (Pst.bind q).imp fun z G1 H1 e1 p1 v H2 S1 nc => p1 G1 H1 (Ext.rf S1.w) v H2 S1 nc⟩
def xCall (m : List Ar → R (Rs × List Sl)) (dds : List PyData) (k : DA) : DX := fun Γ => (k Γ).bind fun z => (R.ofO (rdDs z.2 none z.1)).bind fun ds => ((m ((ds ++ dds).map Ar.d)).atX z.2).bind fun r => .val (r.1, z.2)
theorem cx_call (C : Cf0 X W sc N) (hc : Clee X x dvs (spU X.K X.mg m)) (hg : glB sc x = true) (hdv : ∀ G H, DnA X.K G H dvs dds) (ha : CA X W (e :: es) k)
    (hdb : (x == ("__debug__" : Str)) = false := by decide +kernel) (he : starEach (e :: es) X.env = (false, eval e X.env) :: starEach es X.env := by rfl) (hpl : (backTo pos (starEach es X.env)).any (·.1) = false := by rfl) : CX X W (.Call (.Name x p) (e :: es) [] pos) (xCall m dds k) := fun Γ => by
  obtain ⟨k', f, fd, ps, dss, F, hr, hm, hk, hb, hd⟩ := hc
  refine pe_imp (pe_callSD (E := fun σ cls d H => W cls d σ H) F hr (C.gl hg) hm hk hb hd (fun σ => passAt C.tk σ) (ha Γ) hdb he hpl) fun σ H Q ⟨G, S, q⟩ => ⟨G, S, (Pst.bind q).imp fun z G1 H1 e1 p1 vs S1 av => ?_⟩
  obtain ⟨ds, hds, p1⟩ := Pst.ofO p1
  refine callD_core hdv S1 av hds ((Pst.bind p1).imp fun r G2 H2 e2 p2 S2 => ?_)
  cases hz : r.1 with
  | d w =>
    have p2 := p2 G2 H2 (Ext.rf S2.w)
    rw [hz] at p2
    exact fun v hv => p2 v S2 hv
  | c w =>
    have p2 := p2 G2 H2 (Ext.rf S2.w)
    rw [hz] at p2
    exact fun v H3 hn => p2 v H3 S2 hn
def xCallC (m : List Ar → R (Rs × List Sl)) (n : Nat) (dds : List PyData) (k : DA) : DX := fun Γ => (k Γ).bind fun z => (preC n dds z).bind fun y => ((m y.2.2).atC n z.2 y.1 y.2.1).bind fun r => .val (r.1, r.2)
theorem cx_callC (C : Cf0 X W sc N) (n : Nat) (hc : Clee X x dvs (spU X.K X.mg m)) (hg : glB sc x = true) (hdv : ∀ G H, DnA X.K G H dvs dds) (ha : CA X W (e :: es) k)
    (hdb : (x == ("__debug__" : Str)) = false := by decide +kernel) (he : starEach (e :: es) X.env = (false, eval e X.env) :: starEach es X.env := by rfl) (hpl : (backTo pos (starEach es X.env)).any (·.1) = false := by rfl) : CX X W (.Call (.Name x p) (e :: es) [] pos) (xCallC m n dds k) := fun Γ => by
  obtain ⟨k', f, fd, ps, dss, F, hr, hm, hk, hb, hd⟩ := hc
  refine pe_imp (pe_callSD (E := fun σ cls d H => W cls d σ H) F hr (C.gl hg) hm hk hb hd (fun σ => passAt C.tk σ) (ha Γ) hdb he hpl) fun σ H Q ⟨G, S, q⟩ => ⟨G, S, (Pst.bind q).imp fun z G1 H1 e1 p1 vs S1 av => ?_⟩
  obtain ⟨i, ic, ds, h1, h2, h3, h4, p1⟩ := preC_ok p1
  refine callC_core hdv S1 av h1 h2 h3 h4 ((Pst.bind p1).imp fun r G2 H2 e2 p2 S2 => ?_)
  cases hz : r.1 with
  | d w =>
    have p2 := p2 G2 H2 (Ext.rf S2.w)
    rw [hz] at p2
    exact fun v hv => p2 v S2 hv
  | c w =>
    have p2 := p2 G2 H2 (Ext.rf S2.w)
    rw [hz] at p2
    exact fun v H3 hn => p2 v H3 S2 hn
def rsF : Rs → Option PyData
  | .d x => some x
  | .c c => frzC c
def eX (f : DX) : DF := fun Γ => (f Γ).bind fun z => (R.ofO (rsF z.1)).bind fun d => .val (.d true d, z.2)
theorem ce_x (h : CX X W e f) : CE X W e (eX f) := fun Γ => pe_imp (h Γ) fun σ H Q ⟨G, S, q⟩ => ⟨G, S, (Pst.bind q).imp fun z G1 H1 e1 p1 => by
  obtain ⟨r, Γ1⟩ := z
  cases r with
  | d x =>
    intro v S1 hv
    exact p1 G1 H1 (Ext.rf S1.w) v S1 hv
  | c c =>
    intro v H2 S1 nc
    obtain ⟨d, hd, p1⟩ := Pst.ofO p1
    obtain ⟨G2, S2, e2, hv⟩ := NewC.frz S1 nc hd
    exact p1 G2 H2 e2 v S2 hv⟩
def rsS : Rs → Sl
  | .d x => .dat true x
  | .c c => .own c
def bSetX (i : Nat) (f : DX) : DS := fun Γ => (f Γ).bind fun z => .val (.nx, z.2.set i (rsS z.1))
theorem c1_setX (C : Cf0 X W sc N) (i : Nat) {x : Str} {p' : Pos} (hN : N[i]? = some x) (hv : Sto X sc x) (he : CX X W e f) (hs : swapsWith e (some (.Name x p')) pos.line X.env = pure false := by rfl) : C1 X W (.Assign [.Name x p'] e pos) (bSetX i f) := fun Γ => by
  have hx : Loc X.env.scope x := by rw [C.hsc]; exact hv.1
  refine ps_imp (ps_set (i := i) (by rw [C.hN]; exact C.nd) (by rw [C.hN]; exact hN) hx (he Γ) hs (by rw [C.hsc]; exact hv.2)) fun D σ H ⟨G, S, p⟩ => ⟨G, S, (Pst.bind p).imp fun z G1 H1 e1 p1 => ?_⟩
  obtain ⟨r, Γ1⟩ := z
  cases r with
  | d x =>
    intro v S1 hv
    exact p1 G1 H1 (Ext.rf S1.w) _ (S1.put i hv)
  | c c =>
    intro v H2 S1 nc
    obtain ⟨S2, e2⟩ := S1.putC i nc
    exact p1 G1 H2 e2 _ S2
def bRetX (f : DX) : DS := fun Γ => (f Γ).bind fun z => .val (.rt z.1, z.2)
theorem c1_retX (he : CX X W e f) : C1 X W (.Return (some e) pos) (bRetX f) := fun Γ =>
  ps_imp (ps_ret (he Γ)) fun D σ H ⟨G, S, p⟩ => ⟨G, S, (Pst.bind p).imp fun z G1 H1 e1 p1 => by
    obtain ⟨r, Γ1⟩ := z
    cases r with
    | d x =>
      intro v S1 hv
      exact p1 G1 H1 (Ext.rf S1.w) σ v S1 hv
    | c c =>
      intro v H2 S1 nc
      exact p1 G1 H1 (Ext.rf S1.w) σ v H2 S1 nc⟩
def bExprX (f : DX) : DS := fun Γ => (f Γ).bind fun z => (R.ofO (rsF z.1)).bind fun _ => .val (.nx, z.2)
end
end PD
set_option Elab.async false
set_option linter.all false
set_option maxRecDepth 100000
set_option maxHeartbeats 4000000
set_option autoImplicit false
namespace PD
open PySem L2
section
variable {X : Cx} {W : WX} {sc : Scope} {N : List Str} {a b e : Expr} {es : List Expr} {pos p p2 : Pos} {f g : DF}
theorem spU_law {K : PySem.W.Frag} {mg : Str → Option Value} {H : Hp} {a : Addr} {ns : List Int} {m : List Ar → R (Rs × List Sl)} (h : m [.d (.list (ns.map PyData.int))] = .val (.d (.bool true), [.un])) (hS : SqL K H a (ns.map V.int)) : spU K mg m [.ref a] H (fun v _ => v = .bl true) fun _ _ _ => False := by
  refine ⟨[.d (.list (ns.map PyData.int))], fun _ => [], [], fun _ => none, ?_, ?_⟩
  · refine argsD (ds := [.list (ns.map PyData.int)]) (.cons (.lst ((LsR.of_sq hS).mono fun _ _ z => ⟨z, by simp⟩) (ints_dna ns)) .nil) (fun a o h => by cases h)
  · rw [h]
    exact fun H' N F' _ v hv => dn_bool hv
end
end PD
set_option Elab.async false
set_option linter.all false
set_option maxRecDepth 100000
set_option maxHeartbeats 4000000
set_option autoImplicit false
namespace PD
open PySem PySem.Spec L2
open PyProof.Rows hiding St
section
variable {X : Cx} {W : WX} {sc : Scope} {N : List Str} {a b c e : Expr} {es : List Expr} {pos p p2 q2 : Pos} {f g h : DF}
def cLrg (i j : Int) : Bool := cRng i j && decide ((j - i).toNat ≤ 2 ^ 24)
theorem cLrg_ok {i j : Int} (h : cLrg i j = true) : RgOk i j := by
  unfold cLrg cRng at h
  rw [Bool.and_eq_true] at h
  have h1 := of_decide_eq_true h.1
  have h2 := of_decide_eq_true h.2
  exact ⟨h1.1, h1.2.1, h1.2.2.1, h1.2.2.2, h2⟩
theorem rgV_dna {K : PySem.W.Frag} {G : Rg} {H : Hp} (i j : Int) : DnA K G H (rgV i j) ((rng i j).map PyData.int) := by
  have : rgV i j = (rng i j).map V.int := by unfold rgV rng; rw [List.map_map]; rfl
  rw [this]
  exact ints_dna _
def dLrng1 (f : DF) : DN := fun Γ => (f Γ).bind fun z => (R.ofO (intA z.1)).bind fun j => gq (cLrg 0 j) ((rng 0 j).map PyData.int, z.2)
theorem cn_lrng1 (C : Cf X W sc N) {p3 p4 : Pos} (hg : glB sc "list" = true) (hm : X.mg "list" = none) (hg2 : glB sc "range" = true) (hm2 : X.mg "range" = none) (ha : CE X W a f) (na : starEach [a] X.env = (false, eval a X.env) :: starEach [] X.env := by rfl)
    (na2 : starEach [.Call (.Name "range" p3) [a] [] p4] X.env = (false, eval (.Call (.Name "range" p3) [a] [] p4) X.env) :: starEach [] X.env := by rfl) : CN X W (.Call (.Name "list" p) [.Call (.Name "range" p3) [a] [] p4] [] pos) (dLrng1 f) := fun Γ =>
  pe_imp (pe_listRg C.calm (C.gl hg) hm (prg_1 (C.gl hg2) hm2 (ha Γ) na) na2) fun σ H Q ⟨G, S, q⟩ => ⟨G, S, (Pst.bind q).imp fun r G1 H1 e1 q1 v S1 hv => by
    obtain ⟨j, hj, q1⟩ := Pst.ofO q1
    obtain ⟨hc, q1⟩ := Pst.gq S1.w q1
    exact ⟨j, intA_ok hj hv, cLrg_ok hc, fun q hq => q1 q _ S1 hq (rgV_dna 0 j)⟩⟩
def dLrng2 (f g : DF) : DN := fun Γ => (f Γ).bind fun z => (g z.2).bind fun y => (R.ofO (intA z.1)).bind fun i => (R.ofO (intA y.1)).bind fun j => gq (cLrg i j) ((rng i j).map PyData.int, y.2)
def dChain (r r' : Int → Int → Bool) (f g h : DF) : DF := fun Γ => (f Γ).bind fun x => (g x.2).bind fun y => (R.ofO (intA x.1)).bind fun i => (R.ofO (intA y.1)).bind fun j => if r i j then (h y.2).bind fun z => (R.ofO (intA z.1)).bind fun k => .val (.d true (.bool (r' j k)), z.2) else .val (.d true (.bool false), y.2)
theorem chain_rd {op op' : CmpOp} {r r' : Int → Int → Bool} {Γ : List Sl} (ha : CE X W a f) (hb : CE X W b g) (hc : CE X W c h) {σ : St} {H : Hp} {Q : VK} (hq : rdE X W Γ (dChain r r' f g h Γ) Prod.fst Prod.snd σ H Q) :
    tChain (rI0 fun i j => .bl (r i j)) (rI0 fun i j => .bl (r' i j)) (rdE X W Γ (f Γ) Prod.fst Prod.snd) (fun σ H Q => ∃ x : AV × List Sl, rdE X W x.2 (g x.2) Prod.fst Prod.snd σ H Q) (fun σ H Q => ∃ x : AV × List Sl, rdE X W x.2 (h x.2) Prod.fst Prod.snd σ H Q) σ H Q := by
  obtain ⟨G, S, q⟩ := hq
  refine ⟨G, S, (Pst.bind q).imp fun x G1 H1 e1 q1 v S1 hv => ⟨x, G1, S1, (Pst.bind q1).imp fun y G2 H2 e2 q2 u S2 hu => ?_⟩⟩
  obtain ⟨i, hi, q2⟩ := Pst.ofO q2
  obtain ⟨j, hj, q2⟩ := Pst.ofO q2
  have hu' := intA_ok hj hu
  refine ⟨i, j, intA_ok hi (hv.ext e2), hu', r i j, rfl, ?_⟩
  by_cases hr : r i j = true
  · rw [if_pos hr] at q2 ⊢
    refine ⟨y, G2, S2, (Pst.bind q2).imp fun z G3 H3 e3 q3 w S3 hw => ?_⟩
    obtain ⟨k, hk, q3⟩ := Pst.ofO q3
    exact ⟨j, k, hu', intA_ok hk hw, q3 G3 H3 (Ext.rf S3.w) _ S3 (.bl _)⟩
  · rw [if_neg hr] at q2 ⊢
    exact q2 G2 H2 (Ext.rf S2.w) _ S2 (.bl _)
theorem ct_chain {op op' : CmpOp} {r r' : Int → Int → Bool} (ho : OpR X (compareOp op) (rI0 fun i j => .bl (r i j))) (ho' : OpR X (compareOp op') (rI0 fun i j => .bl (r' i j))) (ha : CE X W a f) (hb : CE X W b g) (hc : CE X W c h)
    (hm : lastMarks [op, op'] [b, c] = false := by with_unfolding_all rfl) : CT X W (.Compare a [op, op'] [b, c] pos) (dTst (dChain r r' f g h)) := fun Γ => by
  refine ⟨fun pins s σ H Q I hq => (pt_chain ho ho' (ha Γ) (pe_any fun x : AV × List Sl => hb x.2) (pe_any fun x : AV × List Sl => hc x.2) hm).run pins s σ H Q I (chain_rd (op := op) (op' := op') (r := r) (r' := r') ha hb hc ?_)⟩
  obtain ⟨G, S, q⟩ := hq
  refine ⟨G, S, (Pst.bind q).imp fun z G1 H1 e1 q1 v S1 hv => ?_⟩
  obtain ⟨y, Γ1⟩ := z
  cases y with
  | s j => exact q1.elim
  | d fr d =>
    cases d <;> try exact q1.elim
    rename_i k
    exact ⟨k, dn_bool hv, q1 G1 H1 (Ext.rf S1.w) S1⟩
end
end PD
set_option Elab.async false
set_option linter.all false
set_option maxRecDepth 100000
set_option maxHeartbeats 4000000
set_option autoImplicit false
namespace PD
open PySem L2
def ItK (t : Bool) (h : Heap) (it l : Addr) (i : Nat) : Prop := match t with
  | true => h.IsTupleIter it l i
  | false => h.IsListIter it l i
def SqK (t : Bool) (h : Heap) (l : Addr) (xs : Array Value) : Prop := match t with
  | true => h.IsTuple l xs
  | false => h.IsList l xs
theorem ItK.e {t : Bool} {h h' : Heap} {it b l : Addr} {i : Nat} (x : ItK t h it l i) (hs : Heap.ExtBut b h h') (n : it ≠ b) : ItK t h' it l i := by
  cases t
  · exact Heap.IsListIter.extBut x hs n
  · exact Heap.IsTupleIter.extBut x hs n
theorem ItK.at {t : Bool} {h h' : Heap} {it l : Addr} {i : Nat} (x : ItK t h it l i) (k : ∀ o, h.get? it = some o → h'.get? it = some o) : ItK t h' it l i := by
  cases t
  · exact Heap.IsListIter.at x k
  · exact Heap.IsTupleIter.at x k
theorem ItK.ob {t : Bool} {h : Heap} {it l : Addr} {i : Nat} (x : ItK t h it l i) : ∃ o fs, h.get? it = some o ∧ o.data = .fields fs := by
  cases t
  · obtain ⟨o, h1, _, h2⟩ := x; exact ⟨o, _, h1, h2⟩
  · obtain ⟨o, h1, _, h2⟩ := x; exact ⟨o, _, h1, h2⟩
theorem SqK.e {t : Bool} {h h' : Heap} {l b : Addr} {xs : Array Value} (x : SqK t h l xs) (hs : Heap.ExtBut b h h') (n : l ≠ b) : SqK t h' l xs := by
  cases t
  · exact Heap.IsList.extBut x hs n
  · exact Heap.IsTuple.extBut x hs n
theorem SqK.p {t : Bool} {h : Heap} {l : Addr} {xs : Array Value} (x : SqK t h l xs) (o : Obj) : SqK t (h.push o) l xs := by
  cases t
  · exact Heap.IsList.push x o
  · exact Heap.IsTuple.push x o
section
variable {prog : Program} {w : World} {A : Around} {E : Value → Shared → Prop} {s : Shared}
variable {t1 t2 : Bool} {z TI TO i1 i2 l1 l2 : Addr} {k1 k2 : Nat} {xs ys : Array Value}
end
end PD
set_option Elab.async false
set_option linter.all false
set_option maxRecDepth 100000
set_option maxHeartbeats 4000000
set_option autoImplicit false
namespace PD
open PySem L2
section
variable {prog : Program} {w : World} {A : Around} {E : Value → Shared → Prop} {s : Shared} {t1 t2 : Bool}
variable {z TI TO i1 i2 l1 l2 : Addr} {k1 k2 : Nat} {xs ys : Array Value}
end
end PD
set_option Elab.async false
set_option linter.all false
set_option maxRecDepth 100000
set_option maxHeartbeats 4000000
set_option autoImplicit false
namespace PD
open PySem L2
section
variable {X : Cx} {W : WX} {sc : Scope} {N : List Str} {e e2 : Expr} {pos p : Pos} {f g : DF}
end
end PD
set_option Elab.async false
set_option linter.all false
set_option maxRecDepth 100000
set_option maxHeartbeats 4000000
set_option autoImplicit false
namespace PD
open PySem L2
end PD
set_option Elab.async false
set_option linter.all false
set_option maxRecDepth 100000
set_option maxHeartbeats 4000000
set_option autoImplicit false
namespace PD
open PySem L2
section
variable {X : Cx} {W : WX} {sc : Scope} {N : List Str} {e : Expr} {es : List Expr} {pos p : Pos} {x : Str} {dvs : List V} {dds : List PyData} {m : List Ar → R (Rs × List Sl)}
end
end PD
set_option Elab.async false
set_option linter.all false
set_option maxRecDepth 100000
set_option maxHeartbeats 4000000
set_option autoImplicit false
namespace PD
open PySem L2
theorem upd_twice {H : Hp} {p : Addr} {a b : HO} : upd (upd H p a) p b = upd H p b := by
  funext q
  by_cases h : q = p
  · subst h; rw [upd_same, upd_same]
  · rw [upd_ne h, upd_ne h, upd_ne h]
section
variable {X : Cx} {W : WX} {sc : Scope} {N : List Str} {e : Expr} {pos p1 : Pos} {x : Str}
def nDic1 (i : Nat) (d : PyData) : DC := fun Γ => (R.ofO (intS Γ[i]?)).bind fun k => .val (.dic .k [(.int k, d)], Γ)
theorem cc_dic1 (C : Cf0 X W sc N) (i : Nat) {v : V} {d : PyData} (hN : N[i]? = some x) (hv : visB sc x = true) (he : PE X e (tC v)) (hvd : ∀ G H, Dn X.K G H v d) (hd : (x == ("__debug__" : Str)) = false := by decide +kernel) (hcd : (x == ("__classdict__" : Str)) = false := by decide +kernel) :
    CC X W (.Dict [some (.Name x p1)] [e] pos) (nDic1 i d) := fun Γ =>
  pe_imp (pe_disp (pps_cons (pe_nm C hN hv hd hcd) he pps_nil) rfl rfl (by simp) (by simp)) fun σ H Q ⟨G, S, q⟩ => by
    obtain ⟨k, hk, q⟩ := Pst.ofO q
    have hs : ∃ fr, Γ[i]? = some (.dat fr (.int k)) := by
      unfold intS at hk
      split at hk
      · cases hk; exact ⟨_, ‹_›⟩
      · cases hk
    obtain ⟨fr, hs⟩ := hs
    obtain ⟨A, T⟩ := id S
    obtain ⟨_, u, hu1, hu2⟩ := T.sl i _ hs
    have hu2 := dn_int hu2
    subst hu2
    intro p hp
    refine ⟨.int k, hu1, ?_⟩
    refine ⟨upd_same, [(.inl k, v)], rfl, (by decide : 1 ≤ 15), ?_⟩
    rw [upd_twice]
    exact q G H (Ext.rf S.w) _ _ S (newc_dic (t := .k) (vs := [v]) hp ⟨[(.inl k, v)], rfl, rfl, rfl⟩ (.cons (hvd _ _) .nil))
end
end PD
set_option Elab.async false
set_option linter.all false
set_option maxRecDepth 100000
set_option maxHeartbeats 4000000
set_option autoImplicit false
namespace PD
open PySem L2
inductive ArsOk (K : PySem.W.Frag) (H : Hp) (R : Rg) (B : Hp) : List V → List Ar → Prop
  | nil : ArsOk K H R B [] []
  | d {v : V} {vs : List V} {x : PyData} {as : List Ar} : Dn K R H v x → ArsOk K H R B vs as → ArsOk K H R B (v :: vs) (.d x :: as)
  | n {v : V} {vs : List V} {x : PyData} {as : List Ar} : Dn K (RN B) H v x → ArsOk K H R B vs as → ArsOk K H R B (v :: vs) (.n x :: as)
section
variable {K : PySem.W.Frag} {H : Hp} {R : Rg} {B : Hp}
theorem ArsOk.length : ∀ {vs : List V} {as : List Ar}, ArsOk K H R B vs as → vs.length = as.length
  | _, _, .nil => rfl
  | _, _, .d _ r => by simp [r.length]
  | _, _, .n _ r => by simp [r.length]
theorem ArsOk.dat : ∀ {vs : List V} {as : List Ar} {i : Nat} {x : PyData}, ArsOk K H R B vs as → as[i]? = some (.d x) → ∃ v, vs[i]? = some v ∧ Dn K R H v x
  | _, _, _, _, .nil, e => by simp at e
  | _, _, 0, _, .d h _, e => by simp at e; subst e; exact ⟨_, rfl, h⟩
  | _, _, 0, _, .n h _, e => by simp at e
  | _, _, i + 1, x, .d _ r, e => by obtain ⟨v, h1, h2⟩ := r.dat (i := i) (x := x) (by simpa using e); exact ⟨v, by simpa using h1, h2⟩
  | _, _, i + 1, x, .n _ r, e => by obtain ⟨v, h1, h2⟩ := r.dat (i := i) (x := x) (by simpa using e); exact ⟨v, by simpa using h1, h2⟩
theorem ArsOk.nat : ∀ {vs : List V} {as : List Ar} {i : Nat} {x : PyData}, ArsOk K H R B vs as → as[i]? = some (.n x) → ∃ v, vs[i]? = some v ∧ Dn K (RN B) H v x
  | _, _, _, _, .nil, e => by simp at e
  | _, _, 0, _, .n h _, e => by simp at e; subst e; exact ⟨_, rfl, h⟩
  | _, _, 0, _, .d h _, e => by simp at e
  | _, _, i + 1, x, .d _ r, e => by obtain ⟨v, h1, h2⟩ := r.nat (i := i) (x := x) (by simpa using e); exact ⟨v, by simpa using h1, h2⟩
  | _, _, i + 1, x, .n _ r, e => by obtain ⟨v, h1, h2⟩ := r.nat (i := i) (x := x) (by simpa using e); exact ⟨v, by simpa using h1, h2⟩
theorem ArsOk.noc : ∀ {vs : List V} {as : List Ar} {i : Nat} {c : Cl}, ArsOk K H R B vs as → as[i]? ≠ some (.c c)
  | _, _, _, _, .nil, e => by simp at e
  | _, _, 0, _, .n h _, e => by simp at e
  | _, _, 0, _, .d h _, e => by simp at e
  | _, _, i + 1, x, .d _ r, e => r.noc (i := i) (c := x) (by simpa using e)
  | _, _, i + 1, x, .n _ r, e => r.noc (i := i) (c := x) (by simpa using e)
theorem ArsOk.app : ∀ {vs : List V} {as : List Ar} {ws : List V} {bs : List Ar}, ArsOk K H R B vs as → ArsOk K H R B ws bs → ArsOk K H R B (vs ++ ws) (as ++ bs)
  | _, _, _, _, .nil, b => b
  | _, _, _, _, .d h r, b => .d h (r.app b)
  | _, _, _, _, .n h r, b => .n h (r.app b)
theorem ArsOk.ofD : ∀ {vs : List V} {ds : List PyData}, DnA K R H vs ds → ArsOk K H R B vs (ds.map Ar.d)
  | _, _, .nil => .nil
  | _, _, .cons h r => .d h (ArsOk.ofD r)
theorem ArsOk.split : ∀ {v1 v2 : List V} {as : List Ar}, ArsOk K H R B (v1 ++ v2) as → ArsOk K H R B v1 (as.take v1.length) ∧ ArsOk K H R B v2 (as.drop v1.length)
  | [], v2, as, h => ⟨.nil, h⟩
  | v :: v1, v2, _, .d h r => by obtain ⟨q1, q2⟩ := ArsOk.split (v1 := v1) r; exact ⟨.d h q1, q2⟩
  | v :: v1, v2, _, .n h r => by obtain ⟨q1, q2⟩ := ArsOk.split (v1 := v1) r; exact ⟨.n h q1, q2⟩
theorem argsA {vs : List V} {as : List Ar} (h : ArsOk K H (fun a o => H a = some o ∧ a ∉ []) B vs as) (hB : ∀ a o, B a = some o → H a = some o) : ArgsU K H vs as (fun _ => []) [] B where
  len := h.length
  dat := fun i x hx => h.dat hx
  cel := fun i c hc => absurd hc h.noc
  emp := fun _ _ => rfl
  all := fun _ _ h => h
  al := fun p h => absurd h (by simp)
  dj := fun i j p h => absurd h (by simp)
  nat := fun i x hx => h.nat hx
  bok := fun a o h => ⟨hB a o h, by simp⟩
def insA (n : Nat) (c : Cl) (as : List Ar) : List Ar := as.take n ++ .c c :: as.drop n
theorem argsCA {v1 v2 : List V} {v : V} {as : List Ar} {c : Cl} {fp : List Addr} (h : ArsOk K H (fun a o => H a = some o ∧ a ∉ fp) B (v1 ++ v2) as) (hc : c.ok K (RN B) H v fp) (al : ∀ p ∈ fp, H p ≠ none) (hB : ∀ a o, B a = some o → H a = some o ∧ a ∉ fp) :
    ArgsU K H (v1 ++ v :: v2) (insA v1.length c as) (fun i => if i = v1.length then fp else []) fp B := by
  obtain ⟨h1, h2⟩ := h.split
  have l1 := h1.length
  have l2 := h2.length
  have e1 : (as.take v1.length).length = v1.length := l1.symm
  have get : ∀ (i : Nat) (y : Ar), (∀ c, y ≠ .c c) → (insA v1.length c as)[i]? = some y → (i < v1.length ∧ (as.take v1.length)[i]? = some y) ∨ ∃ q, i = v1.length + (q + 1) ∧ (as.drop v1.length)[q]? = some y := by
    intro i y hy hx
    unfold insA at hx
    by_cases hlt : i < v1.length
    · rw [List.getElem?_append_left (by rw [e1]; exact hlt)] at hx
      exact .inl ⟨hlt, hx⟩
    · rw [List.getElem?_append_right (by rw [e1]; omega), e1] at hx
      cases hk : i - v1.length with
      | zero =>
        rw [hk] at hx
        simp at hx
        exact absurd hx.symm (hy c)
      | succ q =>
        rw [hk, List.getElem?_cons_succ] at hx
        exact .inr ⟨q, by omega, hx⟩
  refine ⟨?_, fun i x hx => ?_, fun i c' hc' => ?_, fun i hi => ?_, fun i p hp => ?_, al, fun i j p hi hj => ?_, fun i x hx => ?_, hB⟩
  · unfold insA
    rw [List.length_append, List.length_append, List.length_cons, List.length_cons, e1, ← l2]
  · rcases get i _ (fun c z => by cases z) hx with ⟨q1, q2⟩ | ⟨q, rfl, q2⟩
    · rw [List.getElem?_append_left q1]; exact h1.dat q2
    · rw [List.getElem?_append_right (by omega), show v1.length + (q + 1) - v1.length = q + 1 by omega, List.getElem?_cons_succ]; exact h2.dat q2
  · unfold insA at hc'
    by_cases hlt : i < v1.length
    · rw [List.getElem?_append_left (by rw [e1]; exact hlt)] at hc'
      exact absurd hc' h1.noc
    · rw [List.getElem?_append_right (by rw [e1]; omega), e1] at hc'
      cases hk : i - v1.length with
      | zero =>
        rw [hk] at hc'
        cases hc'
        have : i = v1.length := by omega
        subst this
        exact ⟨v, by simp, by rw [if_pos rfl]; exact hc⟩
      | succ q =>
        rw [hk, List.getElem?_cons_succ] at hc'
        exact absurd hc' h2.noc
  · by_cases e : i = v1.length
    · subst e
      refine absurd ?_ (hi c)
      unfold insA
      rw [List.getElem?_append_right (by rw [e1]; exact Nat.le_refl _), e1, Nat.sub_self]
      rfl
    · exact if_neg e
  · by_cases e : i = v1.length
    · rw [if_pos e] at hp; exact hp
    · rw [if_neg e] at hp; cases hp
  · by_cases e : i = v1.length
    · by_cases e' : j = v1.length
      · rw [e, e']
      · rw [if_neg e'] at hj; cases hj
    · rw [if_neg e] at hi; cases hi
  · rcases get i _ (fun c z => by cases z) hx with ⟨q1, q2⟩ | ⟨q, rfl, q2⟩
    · rw [List.getElem?_append_left q1]; exact h1.nat q2
    · rw [List.getElem?_append_right (by omega), show v1.length + (q + 1) - v1.length = q + 1 by omega, List.getElem?_cons_succ]; exact h2.nat q2
end
def rdAs (Γ : List Sl) (i : Option Nat) : List Bool → List AV → Option (List Ar)
  | _, [] => some []
  | true :: ms, .d fr x :: as => if fr || flat x then (rdAs Γ i ms as).map (.n x :: ·) else none
  | true :: _, .s _ :: _ => none
  | false :: ms, .d _ x :: as => (rdAs Γ i ms as).map (.d x :: ·)
  | false :: ms, .s j :: as => if some j = i then none else (rdW Γ j).bind fun x => (rdAs Γ i ms as).map (.d x :: ·)
  | [], .d _ x :: as => (rdAs Γ i [] as).map (.d x :: ·)
  | [], .s j :: as => if some j = i then none else (rdW Γ j).bind fun x => (rdAs Γ i [] as).map (.d x :: ·)
theorem rdAs_ok {K : PySem.W.Frag} {G : Gh} {H : Hp} {σ : St} {Γ : List Sl} {i : Option Nat} {fp : List Addr} (S : Sta K G H σ Γ) (hr : ∀ fr a o, rg G fr a o → a ∉ fp) (hs : ∀ (j : Nat) (x : PyData) (v : V), some j ≠ i → rdW Γ j = some x → σ[j]? = some (some v) → Dn K (fun a o => H a = some o ∧ a ∉ fp) H v x) :
    ∀ {ms : List Bool} {as : List AV} {ars : List Ar} {vs : List V}, rdAs Γ i ms as = some ars → AVs K G H σ vs as → ArsOk K H (fun a o => H a = some o ∧ a ∉ fp) G.N vs ars := by
  intro ms as
  have hd : ∀ {fr : Bool} {x : PyData} {v : V}, Dn K (rg G fr) H v x → Dn K (fun a o => H a = some o ∧ a ∉ fp) H v x := fun {fr x v} q => Dn.mono (fun b o z => ⟨S.w.rgl fr b o z, hr fr b o z⟩) (TupLe.rf _) q
  have hsl : ∀ {j : Nat} {x : PyData} {v : V}, ¬ some j = i → rdW Γ j = some x → σ[j]? = some (some v) → Dn K (fun a o => H a = some o ∧ a ∉ fp) H v x := fun {j x v} hj e1 q => hs j x v hj e1 q
  induction as generalizing ms with
  | nil =>
    intro ars vs h av
    cases av
    have : rdAs Γ i ms [] = some [] := by cases ms <;> rfl
    rw [this] at h
    cases h
    exact .nil
  | cons a as ih =>
    intro ars vs h av
    cases av with
    | cons q r =>
      have dd : ∀ (ms2 : List Bool) {fr : Bool} {x : PyData}, a = .d fr x → (rdAs Γ i ms2 as).map (.d x :: ·) = some ars → ArsOk K H (fun a o => H a = some o ∧ a ∉ fp) G.N (_ :: _) ars := fun ms2 {fr x} ha h2 => by
        subst ha
        cases e : rdAs Γ i ms2 as with
        | none => rw [e] at h2; cases h2
        | some xs => rw [e] at h2; cases h2; exact .d (hd q) (ih e r)
      have ss : ∀ (ms2 : List Bool) {j : Nat}, a = .s j → (if some j = i then none else (rdW Γ j).bind fun x => (rdAs Γ i ms2 as).map (.d x :: ·)) = some ars → ArsOk K H (fun a o => H a = some o ∧ a ∉ fp) G.N (_ :: _) ars := fun ms2 {j} ha h2 => by
        subst ha
        split at h2
        · cases h2
        · rename_i hj
          cases e1 : rdW Γ j with
          | none => rw [e1] at h2; cases h2
          | some x =>
            rw [e1] at h2
            have h2 : (rdAs Γ i ms2 as).map (.d x :: ·) = some ars := h2
            cases e : rdAs Γ i ms2 as with
            | none => rw [e] at h2; cases h2
            | some xs => rw [e] at h2; cases h2; exact .d (hsl hj e1 q) (ih e r)
      cases a with
      | d fr x =>
        cases ms with
        | nil => exact dd [] rfl h
        | cons b ms =>
          cases b with
          | false => exact dd ms rfl h
          | true =>
            unfold rdAs at h
            split at h
            · rename_i hc
              cases e : rdAs Γ i ms as with
              | none => rw [e] at h; cases h
              | some xs =>
                rw [e] at h
                cases h
                refine .n ?_ (ih e r)
                cases fr with
                | true => exact q
                | false => exact Dn.free q (by simpa using hc)
            · cases h
      | s j =>
        cases ms with
        | nil => exact ss [] rfl h
        | cons b ms =>
          cases b with
          | false => exact ss ms rfl h
          | true => cases h
section
variable {X : Cx} {W : WX} {sc : Scope} {N : List Str} {x : Str} {e : Expr} {es : List Expr} {p pos : Pos} {k : DA} {dvs : List V} {dds : List PyData} {m : List Ar → R (Rs × List Sl)}
theorem callM_core {Γ : List Sl} {G : Gh} {H : Hp} {σ : St} {as : List AV} {ars : List Ar} {ms : List Bool} {vs : List V} {Q : VK} (hdv : ∀ G H, DnA X.K G H dvs dds) (S : Sta X.K G H σ Γ) (av : AVs X.K G H σ vs as) (hd : rdAs Γ none ms as = some ars)
    (hp : Pst X W G H σ ((m (ars ++ dds.map Ar.d)).atX Γ) fun z G' H' => Sta X.K G' H' σ Γ → RsOk X.K G'.N H' Q z.1) : spU X.K X.mg m (vs ++ dvs) H Q (fun cls d H => W cls d σ H) := by
  have h1 : ArsOk X.K H (fun a o => H a = some o ∧ a ∉ []) G.N vs ars := rdAs_ok (i := none) (fp := []) S (fun _ _ _ _ => by simp) (fun _ _ _ _ hr hv => S.rdW hr hv) hd av
  refine ⟨_, _, _, G.N, argsA (h1.app (.ofD (hdv _ _))) (fun a o h => (S.w.new a o h).1), ?_⟩
  cases hm : m (ars ++ dds.map Ar.d) with
  | bad => rw [hm] at hp; exact hp
  | exc y =>
    rw [hm] at hp
    intro H' N' F' C d P g1 g2
    obtain ⟨G', S', e', l⟩ := call_end S (fun a o h => P.keep a o h (by simp)) P.new
    refine hp G' H' σ C d e' S' g1 ?_
    rcases g2 with ⟨a, fs, q1, q2, q3, q4⟩ | q
    · exact .inl ⟨a, fs, q1, l _ _ q2, q3, q4.mono l (TupLe.rf _)⟩
    · exact .inr q
  | val z =>
    rw [hm] at hp
    intro H' N' F' P
    obtain ⟨G', S', e', l⟩ := call_end S (fun a o h => P.keep a o h (by simp)) P.new
    have q := hp G' H' e' S'
    cases hz : z.1 with
    | d y => rw [hz] at q; exact fun v hv => q v (hv.mono l (TupLe.rf _))
    | c y => rw [hz] at q; exact fun v H2 ⟨fp, n1, n2, n3⟩ => q v H2 ⟨fp, n1, n2, Cl.mono n3 l (fun _ _ => rfl) (TupLe.rf _)⟩
def xCallM (m : List Ar → R (Rs × List Sl)) (ms : List Bool) (dds : List PyData) (k : DA) : DX := fun Γ => (k Γ).bind fun z => (R.ofO (rdAs z.2 none ms z.1)).bind fun ars => ((m (ars ++ dds.map Ar.d)).atX z.2).bind fun r => .val (r.1, z.2)
theorem cx_callM (C : Cf0 X W sc N) (ms : List Bool) (hc : Clee X x dvs (spU X.K X.mg m)) (hg : glB sc x = true) (hdv : ∀ G H, DnA X.K G H dvs dds) (ha : CA X W (e :: es) k)
    (hdb : (x == ("__debug__" : Str)) = false := by decide +kernel) (he : starEach (e :: es) X.env = (false, eval e X.env) :: starEach es X.env := by rfl) (hpl : (backTo pos (starEach es X.env)).any (·.1) = false := by rfl) : CX X W (.Call (.Name x p) (e :: es) [] pos) (xCallM m ms dds k) := fun Γ => by
  obtain ⟨k', f, fd, ps, dss, F, hr, hm, hk, hb, hd⟩ := hc
  refine pe_imp (pe_callSD (E := fun σ cls d H => W cls d σ H) F hr (C.gl hg) hm hk hb hd (fun σ => passAt C.tk σ) (ha Γ) hdb he hpl) fun σ H Q ⟨G, S, q⟩ => ⟨G, S, (Pst.bind q).imp fun z G1 H1 e1 p1 vs S1 av => ?_⟩
  obtain ⟨ars, hds, p1⟩ := Pst.ofO p1
  refine callM_core hdv S1 av hds ((Pst.bind p1).imp fun r G2 H2 e2 p2 S2 => ?_)
  cases hz : r.1 with
  | d w =>
    have p2 := p2 G2 H2 (Ext.rf S2.w)
    rw [hz] at p2
    exact fun v hv => p2 v S2 hv
  | c w =>
    have p2 := p2 G2 H2 (Ext.rf S2.w)
    rw [hz] at p2
    exact fun v H3 hn => p2 v H3 S2 hn
theorem callCM_core {Γ : List Sl} {G : Gh} {H : Hp} {σ : St} {as : List AV} {ars : List Ar} {ms : List Bool} {vs : List V} {Q : VK} {n i : Nat} {ic : Bool × Cl} (hdv : ∀ G H, DnA X.K G H dvs dds) (S : Sta X.K G H σ Γ) (av : AVs X.K G H σ vs as) (hn : pickC n as = some i) (hc : cellAt Γ i = some ic) (hd : rdAs Γ (some i) ms (as.eraseIdx n) = some ars)
    (hp : Pst X W G H σ ((m (insA n ic.2 (ars ++ dds.map Ar.d))).atC n Γ i ic.1) fun z G' H' => Sta X.K G' H' σ z.2 → RsOk X.K G'.N H' Q z.1) : spU X.K X.mg m (vs ++ dvs) H Q (fun cls d H => W cls d σ H) := by
  have hn' : as[n]? = some (.s i) := by
    unfold pickC at hn
    split at hn
    · cases hn; exact ‹_›
    · cases hn
  obtain ⟨v, v1, v2, rfl, hv1, hv, av2⟩ := avs_erase av hn'
  obtain ⟨v', fp, g1, g2, g3, g4, g5, g6⟩ := S.cellU i ic.1 (cellAt_ok hc)
  rw [hv] at g1
  cases g1
  have h1 : ArsOk X.K H (fun a o => H a = some o ∧ a ∉ fp) G.N (v1 ++ v2) ars := rdAs_ok (i := some i) (fp := fp) S g4 (fun j x u hj hr hu => g5 j x u (fun z => hj (by rw [z])) hr hu) hd av2
  have h2 : ArsOk X.K H (fun a o => H a = some o ∧ a ∉ fp) G.N (v1 ++ (v2 ++ dvs)) (ars ++ dds.map Ar.d) := by
    rw [← List.append_assoc]
    exact h1.app (.ofD (hdv _ _))
  subst hv1
  refine ⟨_, _, _, G.N, by rw [List.append_assoc, List.cons_append]; exact argsCA h2 g2 g3 (fun a o h => ⟨(S.w.new a o h).1, g4 true a o h⟩), ?_⟩
  have key : ∀ H' N' F' Z c', PostU X.K H (v1 ++ v :: v2 ++ dvs) (fun i => if i = v1.length then fp else []) fp G.N H' N' Z F' → ioAt v1.length Z = some c' → ∃ G', Sta X.K G' H' σ (Γ.set i (mkS ic.1 c')) ∧ Ext G H G' H' ∧ RgLe (RN N') (rg G' true) := fun H' N' F' Z c' P hz => by
    obtain ⟨u, q1, q2⟩ := P.cel _ _ (ioAt_ok hz)
    have : u = v := by
      rw [List.append_assoc, List.getElem?_append_right (Nat.le_refl _), Nat.sub_self] at q1
      exact (Option.some.inj q1).symm
    subst this
    exact g6 H' N' (F' v1.length) c' P.keep P.pal P.t P.new q2 fun p hp => P.al _ p hp
  cases hm : m (insA v1.length ic.2 (ars ++ dds.map Ar.d)) with
  | bad => rw [hm] at hp; exact hp
  | exc y =>
    rw [hm] at hp
    intro H' N' F' C d P k1 k2
    obtain ⟨c', hz, hp⟩ := Pst.ofO (show Pst X W G H σ ((R.ofO (ioAt v1.length y.st)).bind fun c => .exc ⟨y.cls, y.flds, Γ.set i (mkS ic.1 c)⟩) _ from hp)
    obtain ⟨G', S', e', l⟩ := key H' N' F' y.st c' P hz
    refine hp G' H' σ C d e' S' k1 ?_
    rcases k2 with ⟨a, fs, q1, q2, q3, q4⟩ | q
    · exact .inl ⟨a, fs, q1, l _ _ q2, q3, q4.mono l (TupLe.rf _)⟩
    · exact .inr q
  | val z =>
    rw [hm] at hp
    intro H' N' F' P
    obtain ⟨c', hz, hp⟩ := Pst.ofO (show Pst X W G H σ ((R.ofO (ioAt v1.length z.2)).bind fun c => .val (z.1, Γ.set i (mkS ic.1 c))) _ from hp)
    obtain ⟨G', S', e', l⟩ := key H' N' F' z.2 c' P hz
    have q := hp G' H' e' S'
    simp only at q
    cases hz : z.1 with
    | d y => rw [hz] at q; exact fun v hv => q v (hv.mono l (TupLe.rf _))
    | c y => rw [hz] at q; exact fun v H2 ⟨fp, n1, n2, n3⟩ => q v H2 ⟨fp, n1, n2, Cl.mono n3 l (fun _ _ => rfl) (TupLe.rf _)⟩
def xCallCM (m : List Ar → R (Rs × List Sl)) (n : Nat) (ms : List Bool) (dds : List PyData) (k : DA) : DX := fun Γ => (k Γ).bind fun z => (R.ofO (pickC n z.1)).bind fun i => (R.ofO (cellAt z.2 i)).bind fun ic => (R.ofO (rdAs z.2 (some i) ms (z.1.eraseIdx n))).bind fun ars => ((m (insA n ic.2 (ars ++ dds.map Ar.d))).atC n z.2 i ic.1).bind fun r => .val (r.1, r.2)
theorem cx_callCM (C : Cf0 X W sc N) (n : Nat) (ms : List Bool) (hc : Clee X x dvs (spU X.K X.mg m)) (hg : glB sc x = true) (hdv : ∀ G H, DnA X.K G H dvs dds) (ha : CA X W (e :: es) k)
    (hdb : (x == ("__debug__" : Str)) = false := by decide +kernel) (he : starEach (e :: es) X.env = (false, eval e X.env) :: starEach es X.env := by rfl) (hpl : (backTo pos (starEach es X.env)).any (·.1) = false := by rfl) : CX X W (.Call (.Name x p) (e :: es) [] pos) (xCallCM m n ms dds k) := fun Γ => by
  obtain ⟨k', f, fd, ps, dss, F, hr, hm, hk, hb, hd⟩ := hc
  refine pe_imp (pe_callSD (E := fun σ cls d H => W cls d σ H) F hr (C.gl hg) hm hk hb hd (fun σ => passAt C.tk σ) (ha Γ) hdb he hpl) fun σ H Q ⟨G, S, q⟩ => ⟨G, S, (Pst.bind q).imp fun z G1 H1 e1 p1 vs S1 av => ?_⟩
  obtain ⟨i, h1, p1⟩ := Pst.ofO p1
  obtain ⟨ic, h2, p1⟩ := Pst.ofO p1
  obtain ⟨ars, h3, p1⟩ := Pst.ofO p1
  refine callCM_core hdv S1 av h1 h2 h3 ((Pst.bind p1).imp fun r G2 H2 e2 p2 S2 => ?_)
  cases hz : r.1 with
  | d w =>
    have p2 := p2 G2 H2 (Ext.rf S2.w)
    rw [hz] at p2
    exact fun v hv => p2 v S2 hv
  | c w =>
    have p2 := p2 G2 H2 (Ext.rf S2.w)
    rw [hz] at p2
    exact fun v H3 hn => p2 v H3 S2 hn
end
end PD
set_option Elab.async false
set_option linter.all false
set_option maxRecDepth 100000
set_option maxHeartbeats 4000000
set_option autoImplicit false
namespace PD
open PySem L2
section
variable {X : Cx} {W : WX} {sc : Scope} {N : List Str} {a b e : Expr} {pos : Pos} {f g : DF}
end
end PD
set_option Elab.async false
set_option linter.all false
set_option maxRecDepth 100000
set_option maxHeartbeats 4000000
set_option autoImplicit false
namespace PD
open PySem L2
section
variable {X : Cx} {W : WX} {sc : Scope} {N : List Str} {pos : Pos}
def gTs : List DG → Bool → List PyData → List Sl → Option (List Sl)
  | [], _, [], Γ => some Γ
  | g :: gs, fr, d :: ds, Γ => (g fr d Γ).bind fun Γ1 => gTs gs fr ds Γ1
  | _, _, _, _ => none
def gTn (gs : List DG) : DG := fun fr d Γ => match d with
  | .tuple ds => gTs gs fr ds Γ
  | _ => none
def CGs (X : Cx) (tgs : List Expr) (ts : List Nat) (gs : List DG) : Prop :=
  PGs X tgs (fun vs σ H Q => ∃ G Γ fr ds Γ', Sta X.K G H σ Γ ∧ DnA X.K (rg G fr) H vs ds ∧ gTs gs fr ds Γ = some Γ' ∧ ∀ σ', σ'.length = σ.length → (∀ j, j ∉ ts → σ'[j]? = σ[j]?) → Sta X.K G H σ' Γ' → Q σ' H)
theorem pgs_imp {es : List Expr} {t u : TGs} (h : PGs X es t) (hi : ∀ vs σ H Q, u vs σ H Q → t vs σ H Q) : PGs X es u :=
  ⟨fun pins s σ H vs us Q I r hw => h.run pins s σ H vs us Q I r (hi _ _ _ _ hw)⟩
theorem cgs_nil : CGs X [] [] [] := pgs_imp pgs_nil fun vs σ H Q ⟨G, Γ, fr, ds, Γ', S, hd, e, k⟩ => by
  cases hd with
  | nil =>
    cases e
    exact ⟨rfl, k σ rfl (fun _ _ => rfl) S⟩
  | cons _ _ => cases e
theorem cgs_cons {t1 : Expr} {tgs : List Expr} {ts1 ts2 : List Nat} {g1 : DG} {gs : List DG} (h1 : CG X t1 ts1 g1) (h2 : CGs X tgs ts2 gs) (hs : (assignEach (t1 :: tgs) X.env).map (·.2) = assign t1 X.env :: (assignEach tgs X.env).map (·.2) := by rfl) : CGs X (t1 :: tgs) (ts1 ++ ts2) (g1 :: gs) :=
  pgs_imp (pgs_cons h1 h2 hs) fun vs σ H Q hh => by
    obtain ⟨G, Γ, fr, ds, Γ', S, hd, e, k⟩ := hh
    cases hd with
    | nil => cases e
    | cons d1 r1 =>
      rename_i v vs d ds
      have e : (g1 fr d Γ).bind (fun Γ1 => gTs gs fr ds Γ1) = some Γ' := e
      cases e1 : g1 fr d Γ with
      | none => rw [e1] at e; cases e
      | some Γ1 =>
        rw [e1] at e
        exact ⟨v, vs, rfl, G, Γ, fr, d, Γ1, S, d1, e1, fun σ1 l1 k1 S1 => ⟨G, Γ1, fr, ds, Γ', S1, r1, e, fun σ2 l2 k2 S2 => k _ (l2.trans l1) (fun j hj => (k2 j fun z => hj (by simp [z])).trans (k1 j fun z => hj (by simp [z]))) S2⟩⟩
theorem cg_tupn (C : Cf X W sc N) {tgs : List Expr} {ts : List Nat} {gs : List DG} {kk n : Nat} (h : CGs X tgs ts gs) (hl : gs.length = n := by rfl) (hn : (assignEach tgs X.env).length = n := by rfl) (hst : (assignEach tgs X.env).findIdx? (·.1) = none := by rfl) : CG X (.Tuple tgs kk pos) ts (gTn gs) := by
  refine pg_imp (pg_tup (n := n) C.calm h hn hst) fun v σ H Q ⟨G, Γ, fr, d, Γ', S, hd, e, k⟩ => ?_
  unfold gTn at e
  split at e
  · rename_i ds
    obtain ⟨q, xs, rfl, hq, hds⟩ := dn_tuple hd
    have hlen : ∀ (gs : List DG) (ds : List PyData) (Γ Γ' : List Sl), gTs gs fr ds Γ = some Γ' → ds.length = gs.length := by
      intro gs
      induction gs with
      | nil => intro ds Γ Γ' e; cases ds with
        | nil => rfl
        | cons => cases e
      | cons g gs ih =>
        intro ds Γ Γ' e
        cases ds with
        | nil => cases e
        | cons d ds =>
          have e : (g fr d Γ).bind (fun Γ1 => gTs gs fr ds Γ1) = some Γ' := e
          cases e1 : g fr d Γ with
          | none => rw [e1] at e; cases e
          | some Γ1 => rw [e1] at e; simp [ih ds Γ1 Γ' e]
    have := hlen gs ds Γ Γ' e
    refine ⟨q, xs, rfl, hq, ?_, G, Γ, fr, ds, Γ', S, ?_, e, k⟩
    · have := hds.length; omega
    · exact hds
  · cases e
end
end PD
set_option Elab.async false
set_option linter.all false
set_option maxRecDepth 100000
set_option maxHeartbeats 4000000
set_option autoImplicit false
namespace PD
open PySem PySem.Spec L2
open PyProof.Rows (AllBare)
section
variable {X : Cx} {pins : List (Addr × Obj)} {σ : St} {H : Hp} {sI s' : Shared} {B : Heap}
end
section
variable {X : Cx} {x n : Str} {c : Value} {i : Nat} {body suite : List Stmt} {b0 : Stmt} {np pos pos2 : Pos} {tb : WX → TS} {ts : Addr → TS} {Wout : WX}
end
end PD
set_option Elab.async false
set_option linter.all false
set_option maxRecDepth 100000
set_option maxHeartbeats 4000000
set_option autoImplicit false
namespace PD
open PySem PySem.Spec L2
open PyProof.Rows (AllBare)
def exIs (c d : Str) : Bool := decide (c = d) || (decide (d = "HuntError") || decide (d = "ValueError"))
def xfb (K : PySem.W.Frag) (c : Str) : Bool :=
  (PySem.W.clsIn K (He.ga K c)).isSome && (decide (PySem.W.findIn K (.ref (He.ga K c)) "__getattribute__" = some (some (.builtin "BaseException.__getattribute__"))) &&
    (decide (PySem.W.findIn K (.ref (He.ga K c)) "__getattr__" = some none) && (decide (PySem.W.subIn K (.ref (He.ga K c)) (.type "BaseException") = some true) &&
      (PySem.W.hasDictIn K (He.ga K c) && (decide (PySem.W.findIn K (.ref (He.ga K c)) "__class__" = some (some (.builtin "object.__class__"))) &&
        (decide (PySem.W.specialIn K (.builtin "object.__class__") "__get__" = some (some (.builtin "getset_descriptor.__get__"))) &&
          (decide (PySem.W.takesIn K (.builtin "object.__class__") = some true) && (decide (PySem.W.mroIn K (He.ga K c) (.type "object") = some true) && decide (PySem.W.typeIn K (.ref (He.ga K c)) = some (.type "type"))))))))))
structure XF (K : PySem.W.Frag) (C : Addr) : Prop where
  cl : (PySem.W.clsIn K C).isSome = true
  ga : PySem.W.findIn K (.ref C) "__getattribute__" = some (some (.builtin "BaseException.__getattribute__"))
  gt : PySem.W.findIn K (.ref C) "__getattr__" = some none
  sb : PySem.W.subIn K (.ref C) (.type "BaseException") = some true
  hd : PySem.W.hasDictIn K C = true
  ca : PySem.W.findIn K (.ref C) "__class__" = some (some (.builtin "object.__class__"))
  gn : PySem.W.specialIn K (.builtin "object.__class__") "__get__" = some (some (.builtin "getset_descriptor.__get__"))
  tk : PySem.W.takesIn K (.builtin "object.__class__") = some true
  mo : PySem.W.mroIn K C (.type "object") = some true
  ty : PySem.W.typeIn K (.ref C) = some (.type "type")
theorem xfb_ok {K : PySem.W.Frag} {c : Str} (h : xfb K c = true) : XF K (He.ga K c) := by
  unfold xfb at h
  simp only [Bool.and_eq_true] at h
  obtain ⟨h1, h2, h3, h4, h5, h6, h7, h8, h9, h10⟩ := h
  exact ⟨h1, of_decide_eq_true h2, of_decide_eq_true h3, of_decide_eq_true h4, h5, of_decide_eq_true h6, of_decide_eq_true h7, of_decide_eq_true h8, of_decide_eq_true h9, of_decide_eq_true h10⟩
def clU (K : PySem.W.Frag) (d : Str) : Value := if d = "ValueError" then .type "ValueError" else .ref (He.ga K d)
def kitF (K : PySem.W.Frag) (xs : List Str) (d : Str) : Bool := decide (PySem.W.kitOne K (.type "NoneType") (clU K d) = some false) && xs.all fun c => decide (PySem.W.kitOne K (.ref (He.ga K c)) (clU K d) = some (exIs c d))
def exmF (K : PySem.W.Frag) (xs : List Str) (d : Str) : Bool := xs.all fun c => decide (PySem.W.exmOne K (.ref (He.ga K c)) (.ref (He.ga K d)) = some (exIs c d))
def xallB (K : PySem.W.Frag) (xs ds hs fs : List Str) : Bool := (xs.all (xfb K)) && ((ds.all (kitF K xs)) && ((hs.all (exmF K xs)) && (xs.all fun c => fs.all fun f => decide (PySem.W.findIn K (.ref (He.ga K c)) f = some none))))
structure XAll (K : PySem.W.Frag) (mg : Str → Option Value) (xs ds hs fs : List Str) : Prop where
  mgc : ∀ c ∈ xs, mg c = some (.ref (He.ga K c))
  mgd : ∀ d ∈ ds, d ≠ "ValueError" → mg d = some (.ref (He.ga K d))
  mgh : ∀ d ∈ hs, mg d = some (.ref (He.ga K d))
  xf : ∀ c ∈ xs, XF K (He.ga K c)
  kn : ∀ d ∈ ds, PySem.W.kitOne K (.type "NoneType") (clU K d) = some false
  kit : ∀ d ∈ ds, ∀ c ∈ xs, PySem.W.kitOne K (.ref (He.ga K c)) (clU K d) = some (exIs c d)
  exm : ∀ d ∈ hs, ∀ c ∈ xs, PySem.W.exmOne K (.ref (He.ga K c)) (.ref (He.ga K d)) = some (exIs c d)
  fld : ∀ c ∈ xs, ∀ f ∈ fs, PySem.W.findIn K (.ref (He.ga K c)) f = some none
theorem xall_ok {K : PySem.W.Frag} {mg : Str → Option Value} {xs ds hs fs : List Str} (h : xallB K xs ds hs fs = true) (m1 : ∀ c ∈ xs, mg c = some (.ref (He.ga K c))) (m2 : ∀ d ∈ ds, d ≠ "ValueError" → mg d = some (.ref (He.ga K d)))
    (m3 : ∀ d ∈ hs, mg d = some (.ref (He.ga K d))) : XAll K mg xs ds hs fs := by
  unfold xallB at h
  simp only [Bool.and_eq_true, List.all_eq_true] at h
  obtain ⟨h1, h2, h3, h4⟩ := h
  refine ⟨m1, m2, m3, fun c hc => xfb_ok (h1 c hc), fun d hd => ?_, fun d hd c hc => ?_, fun d hd c hc => ?_, fun c hc f hf => of_decide_eq_true (h4 c hc f hf)⟩
  · have := h2 d hd
    unfold kitF at this
    exact of_decide_eq_true (Bool.and_eq_true_iff.mp this).1
  · have := h2 d hd
    unfold kitF at this
    exact of_decide_eq_true (List.all_eq_true.mp (Bool.and_eq_true_iff.mp this).2 c hc)
  · have := h3 d hd
    unfold exmF at this
    exact of_decide_eq_true (List.all_eq_true.mp this c hc)
section
variable {X : Cx} {pins : List (Addr × Obj)} {σ : St} {H : Hp} {s : Shared}
end
section
variable {X : Cx} {W : WX} {sc : Scope} {N : List Str} {xs ds hs fs : List Str} {e : Expr} {p p2 p3 pos : Pos} {f : DF}
inductive ClNs (X : Cx) (sc : Scope) (ds : List Str) : List Expr → List Str → Prop
  | nil : ClNs X sc ds [] []
  | cons {D : Str} {p : Pos} {es : List Expr} {Ds : List Str} : D ∈ ds → glB sc D = true → (D = "ValueError" → X.mg D = none) → (D == ("__debug__" : Str)) = false → starEach (.Name D p :: es) X.env = (false, eval (.Name D p) X.env) :: starEach es X.env → ClNs X sc ds es Ds → ClNs X sc ds (.Name D p :: es) (D :: Ds)
theorem ClNs.mem {es : List Expr} {Ds : List Str} (h : ClNs X sc ds es Ds) : ∀ d ∈ Ds, d ∈ ds := by
  induction h with
  | nil => intro d hd; cases hd
  | cons h1 _ _ _ _ _ ih =>
    intro d hd
    rcases List.mem_cons.mp hd with z | z
    · rw [z]; exact h1
    · exact ih d z
end
end PD
set_option Elab.async false
set_option linter.all false
set_option maxRecDepth 100000
set_option maxHeartbeats 4000000
set_option autoImplicit false
namespace PD
open PySem PySem.Spec L2
open PyProof.Rows (AllBare)
section
variable {X : Cx} {W : WX} {sc : Scope} {N : List Str} {xs ds hs fs : List Str} {b s : DS} {body suite : List Stmt} {b0 : Stmt} {np pos pos2 : Pos}
theorem XdOk.mono {K : PySem.W.Frag} {G G' : Rg} {H H' : Hp} {d : Option Addr} {flds : List (Str × PyData)} (h : XdOk K G H d flds) (g : RgLe G G') (t : TupLe H H') : XdOk K G' H' d flds := by
  rcases h with ⟨dd, fl, rfl, g2, e1, e2⟩ | ⟨rfl, rfl⟩
  · exact .inl ⟨dd, fl, rfl, g _ _ g2, e1, e2.mono g t⟩
  · exact .inr ⟨rfl, rfl⟩
end
def XMk (X : Cx) (c : Str) (fns : List Str) : Prop :=
  ∀ (e : Expr) (es : List Expr) (t : TA) (p pos : Pos), PA X (e :: es) t → (∀ σ H (Q Q' : List V → Hp → Prop), (∀ vs H1, Q vs H1 → Q' vs H1) → t σ H Q → t σ H Q') → glB X.env.scope c = true → starEach (e :: es) X.env = (false, eval e X.env) :: starEach es X.env → (backTo pos (starEach es X.env)).any (·.1) = false →
    PMk X (.Call (.Name c p) (e :: es) [] pos) (fun σ H Q => t σ H fun vs H1 => vs.length = fns.length ∧ ∀ d, H1 d = none → Q (.ref (He.ga X.K c)) (some d) (upd H1 d (.xd (fns.zip vs).reverse)))
def bRaise (c : Str) (fns : List Str) (k : DA) : DS := fun Γ => (k Γ).bind fun z => match allF z.1 with
  | some (ds, true) => if ds.length = fns.length then .exc ⟨c, (fns.zip ds).reverse, z.2⟩ else .bad
  | _ => .bad
theorem zip_fst2 {α β : Type} : ∀ (xs : List α) (ys : List β), ys.length = xs.length → (xs.zip ys).map (·.1) = xs
  | [], _, _ => rfl
  | _ :: _, [], h => by cases h
  | x :: xs, y :: ys, h => by
    rw [List.zip_cons_cons, List.map_cons, zip_fst2 xs ys (by simpa using h)]
theorem zip_snd2 {α β : Type} : ∀ (xs : List α) (ys : List β), ys.length = xs.length → (xs.zip ys).map (·.2) = ys
  | [], [], _ => rfl
  | [], _ :: _, h => by cases h
  | _ :: _, [], h => by cases h
  | x :: xs, y :: ys, h => by
    rw [List.zip_cons_cons, List.map_cons, zip_snd2 xs ys (by simpa using h)]
section
variable {X : Cx} {W : WX} {sc : Scope} {N : List Str} {xs ds hs fs fns : List Str} {c : Str} {e : Expr} {es : List Expr} {k : DA} {p pos pos2 : Pos}
theorem c1_raise (C : Cf X W sc N) (F : XAll X.K X.mg xs ds hs fs) (M : XMk X c fns) (hc : c ∈ xs) (hg : glB sc c = true) (ha : CA X W (e :: es) k)
    (he : starEach (e :: es) X.env = (false, eval e X.env) :: starEach es X.env := by rfl) (hpl : (backTo pos (starEach es X.env)).any (·.1) = false := by rfl) : C1 X W (.Raise (some (.Call (.Name c p) (e :: es) [] pos)) none pos2) (bRaise c fns k) := fun Γ => by
  refine ps_imp (ps_raise C.calm C.tk (M e es _ p pos (ha Γ) (fun σ H Q Q' hk ⟨G, S, q⟩ => ⟨G, S, q.imp fun r G1 H1 e1 h vs S1 av => hk vs H1 (h vs S1 av)⟩) (by rw [C.hsc]; exact hg) he hpl)) fun D σ H ⟨G, S, q⟩ => ⟨G, S, (Pst.bind q).imp fun z G1 H1 e1 p1 vs S1 av => ?_⟩
  cases hz : allF z.1 with
  | none => rw [hz] at p1; exact p1.elim
  | some r =>
    obtain ⟨dl, fr⟩ := r
    rw [hz] at p1
    cases fr with
    | false => exact p1.elim
    | true =>
      dsimp only at p1
      have dn := allF_ok hz av
      by_cases hl : dl.length = fns.length
      · rw [if_pos hl] at p1
        have hv : vs.length = fns.length := by rw [← hl]; exact dn.length
        refine ⟨hv, fun d hd => ?_⟩
        obtain ⟨S2, e2⟩ := S1.grow (grow_new (o := .xd (fns.zip vs).reverse) S1.w hd)
        refine p1 _ _ σ (He.ga X.K c) (some d) e2 S2 (F.mgc c hc) (.inl ⟨d, _, rfl, upd_same, ?_, ?_⟩)
        · rw [List.map_reverse, List.map_reverse, zip_fst2 _ _ hv, zip_fst2 _ _ hl]
        · rw [List.map_reverse, List.map_reverse, zip_snd2 _ _ hv, zip_snd2 _ _ hl]
          exact (e2.dna dn).reverse
      · rw [if_neg hl] at p1
        exact p1.elim
end
end PD
set_option Elab.async false
set_option linter.all false
set_option maxRecDepth 100000
set_option maxHeartbeats 4000000
set_option autoImplicit false
namespace PD
open PySem PySem.Spec L2
def huntB (K : PySem.W.Frag) : Bool := PySem.W.readsIn K (He.ga K "HuntError") (.type "type") && (decide (PySem.W.specialIn K (.ref (He.ga K "HuntError")) "__getattribute__" = some (some (.builtin "type.__getattribute__"))) &&
  (match PySem.W.findCls K (.ref (He.ga K "HuntError")) (.type "type") "__init__" with
    | some (.val (.builtin n)) => decide (n = "ValueError.__init__")
    | _ => false))
structure HuntC (K : PySem.W.Frag) (C : Addr) : Prop where
  rd : PySem.W.readsIn K C (.type "type") = true
  ga : PySem.W.specialIn K (.ref C) "__getattribute__" = some (some (.builtin "type.__getattribute__"))
  ini : PySem.W.findCls K (.ref C) (.type "type") "__init__" = some (.val (.builtin "ValueError.__init__"))
theorem huntB_ok {K : PySem.W.Frag} (h : huntB K = true) : HuntC K (He.ga K "HuntError") := by
  unfold huntB at h
  simp only [Bool.and_eq_true] at h
  obtain ⟨h1, h2, h3⟩ := h
  refine ⟨h1, of_decide_eq_true h2, ?_⟩
  split at h3
  · rename_i n e
    rw [e, of_decide_eq_true h3]
  · cases h3
def oexB (K : PySem.W.Frag) (C : Addr) : Bool := (match K.lookup C with
  | some ⟨.type "type", _, .cls cd, sl⟩ => (match cd.mro, sl.toList with
    | .ref C' :: bm, [_, _, _, _, some (.builtin n), _] => C' == C && (n == "ValueError.__new__" && (!cd.hasDel && (cd.hasDict && PySem.HandSPX.refsVE bm)))
    | _, _ => false)
  | _ => false) && (decide (PySem.W.findIn K (.ref C) "__setattr__" = some (some (.builtin "object.__setattr__"))) && (decide (PySem.W.subIn K (.ref C) (.type "BaseException") = some true) && (decide (PySem.W.typeIn K (.ref C) = some (.type "type")) && PySem.W.keepIn K (.ref C))))
theorem oexB_ok {K : PySem.W.Frag} {C : Addr} (h : oexB K C = true) : OexC K C := by
  unfold oexB at h
  rw [Bool.and_eq_true] at h
  obtain ⟨h0, h⟩ := h
  simp only [Bool.and_eq_true] at h
  obtain ⟨h1, h2, h3, h4⟩ := h
  refine ⟨?_, of_decide_eq_true h1, of_decide_eq_true h2, of_decide_eq_true h3, h4⟩
  split at h0
  · rename_i dd cd sl ho
    split at h0
    · rename_i C' bm k0 k1 k2 k3 n k5 hm hs
      simp only [Bool.and_eq_true, beq_iff_eq, Bool.not_eq_true'] at h0
      obtain ⟨rfl, rfl, hdel, hdc, ht⟩ := h0
      obtain ⟨nm, bs, mro, ns, qn, hd, sn, sub, ab, col, del⟩ := cd
      dsimp only at hm hdel hdc
      subst hm hdel hdc
      have e : sl = #[k0, k1, k2, k3, some (.builtin "ValueError.__new__"), k5] := by
        obtain ⟨l⟩ := sl
        dsimp only at hs
        rw [hs]
      subst e
      exact ⟨nm, qn, ns, bs, bm, sn, sub, ab, col, dd, k0, k1, k2, k3, k5, ho, ht⟩
    · cases h0
  · cases h0
section
variable {X : Cx} {e : Expr} {es : List Expr} {ta : TA} {p1 p2 pos : Pos}
theorem pe_hinit {CH : Addr} {pl : Sem Bool} (T : HuntC X.K CH) (hg : Gl X "HuntError") (hm : X.mg "HuntError" = some (.ref CH)) (ha : PA X (e :: es) ta)
    (hc : eval (.Call (.Attribute (.Name "HuntError" p1) "__init__" p2) (e :: es) [] pos) X.env = (do
      let ov ← eval (.Name "HuntError" p1) X.env
      standAt p2.atName
      let (f, first) ← holding [ov] (getMethod ov "__init__" pl)
      callWith pos f first (backTo pos (starEach (e :: es) X.env)) (backToKw pos (keywordEach [] X.env))) := by rfl)
    (he : starEach (e :: es) X.env = (false, eval e X.env) :: starEach es X.env := by rfl) (hpl : (backTo pos (starEach es X.env)).any (·.1) = false := by rfl) :
    PE X (.Call (.Attribute (.Name "HuntError" p1) "__init__" p2) (e :: es) [] pos) (tVeI X.K ta) := by
  refine ⟨fun pins s σ H Q I h => ?_⟩
  refine PySem.W.methodCall_KW (ld_glob I hg hm ?_ (by decide +kernel)) hc
  refine PySem.W.method_cls I.kIn T.ga (PySem.W.cls_value I.kIn T.rd T.ini (by decide +kernel) ?_)
  show wpAny _ _ (callWith pos (Value.builtin "ValueError.__init__") [] (backTo pos (starEach (e :: es) X.env)) []) _ _ _
  refine PyProof.Rows.callWith_method1 (thn (ha.run pos pins _ σ H _ (I.tok _) h) fun us s1 ⟨vs, H1, I1, r1, a, C, ws, ev, hl, T, ea, q⟩ => ?_) he hpl
  subst ev
  cases r1 with
  | @cons _ u0 _ ur ra rr =>
    obtain rfl : u0 = Value.ref a := ra
    have hn : ur.length ≤ sizeLine := by
      have e1 := Paired.length rr
      have e2 := sizeLine_eq
      omega
    exact oinit_ok T I1 ea hn fun s2 J => ⟨.non, H1, J, rfl, q⟩
end
def spI (K : PySem.W.Frag) (fns : List Str) : Sp := fun vs H Q _ => ∃ (a C : Addr) (ws : List V), vs = .ref a :: ws ∧ ws.length = fns.length ∧ OexC K C ∧ (∀ f ∈ fns, PySem.W.findIn K (.ref C) f = some none) ∧ H a = some (exo a C none) ∧
  ∀ dx, H dx = none → dx ≠ a → Q .non (upd (upd H dx (exd dx (fns.zip ws).reverse)) a (exo a C (some dx)))
section
variable {P : Program} {w : World} {K : PySem.W.Frag} {mg : Str → Option Value} {base : Heap} {qual : Str} {params : Arguments} {body : List Stmt} {scope : Scope} {fI : Addr} {fd : FuncData} {CH : Addr}
theorem spI_len {fns : List Str} {n : Nat} (hn : fns.length + 1 = n) : ∀ vs H Q E, spI K fns vs H Q E → vs.length = n := fun vs H Q E ⟨a, C, ws, e, h, _⟩ => by
  rw [e, List.length_cons, h, hn]
theorem fi1 {f msg : Str} {j : Nat} {q1 q2 q3 q4 q5 q6 q7 q8 q9 q10 : Pos} (F : FunD K "__init__" qual params body scope [] [] fI fd) (S : FnScope ["self", f] ["self", f] scope)
    (hbd : body = [.Expr (.Call (.Attribute (.Name "HuntError" q1) "__init__" q2) [.Name "self" q3, .Constant (.str msg) j q4] [] q5) q6, .Assign [.Attribute (.Name "self" q7) f q8] (.Name f q9) q10])
    (hc : ∀ env : Env, ∃ pl : Sem Bool, eval (.Call (.Attribute (.Name "HuntError" q1) "__init__" q2) [.Name "self" q3, .Constant (.str msg) j q4] [] q5) env = (do
      let ov ← eval (.Name "HuntError" q1) env
      standAt q2.atName
      let (f, first) ← holding [ov] (getMethod ov "__init__" pl)
      callWith q5 f first (backTo q5 (starEach [.Name "self" q3, .Constant (.str msg) j q4] env)) (backToKw q5 (keywordEach [] env))))
    (hgl : glB scope "HuntError" = true) (hv0 : visB scope "self" = true) (hv1 : visB scope f = true) (hmg : mg "HuntError" = some (.ref CH)) (T : HuntC K CH) (hf1 : (f == ("__debug__" : Str)) = false) (hf2 : (f == ("__classdict__" : Str)) = false) :
    FnOk P w K mg base (L2.CX P w) 1 fI fd ["self", f] (spI K [f]) := by
  refine F.ok S (spI_len rfl) fun cdv A outer s H vs Q E hr ⟨a, C, ws, e, hl, TC, hno, ea, hq⟩ => ?_
  subst e
  obtain ⟨v, rfl⟩ : ∃ v, ws = [v] := by
    cases ws with
    | nil => cases hl
    | cons v r =>
      cases r with
      | nil => exact ⟨v, rfl⟩
      | cons _ _ => cases hl
  subst hbd
  obtain ⟨pl, hc⟩ := hc (PyProof.Rows.envOfC qual scope s.heap.objs.size fI cdv)
  have g : Gl (cxOf (L2.CX P w) P w K mg base ["self", f] qual scope fI cdv A outer s H E) "HuntError" := gl_of hgl
  refine ⟨_, pss_cons (ps_expr (pe_hinit (CH := CH) T g hmg (pa_cons (pe_var (i := 0) rfl (vis_of hv0)) (pa_cons pe_str pa_nil)) (pl := pl) hc)) (pss_cons (ps_ost (pe_var (i := 0) rfl (vis_of hv0)) (pe_var (i := 1) rfl (vis_of hv1) hf1 hf2)) pss_nil), ?_⟩
  refine ⟨.ref a, rfl, a, C, [.str msg], rfl, by simp, TC, ea, ?_⟩
  refine ⟨v, rfl, .ref a, rfl, a, C, rfl, TC, hno f (by simp), .inl ⟨ea, fun dx n ne => hq dx n ne⟩⟩
end
section
variable {X : Cx} {W : WX} {sc : Scope} {N : List Str}
theorem xmk_of (C : Cf0 X W sc N) {c : Str} {fns ps : List Str} {fd : FuncData} (T : OexC X.K (He.ga X.K c)) (iC : PySem.W.findIn X.K (.ref (He.ga X.K c)) "__init__" = some (some (.ref (He.fAd X.K (c, some "__init__")))))
    (tI : PySem.W.typeIn X.K (.ref (He.fAd X.K (c, some "__init__"))) = some (.type "function")) (hno : ∀ f ∈ fns, PySem.W.findIn X.K (.ref (He.ga X.K c)) f = some none)
    (F1 : FnOk X.prog X.w X.K X.mg X.base (L2.CX X.prog X.w) 1 (He.fAd X.K (c, some "__init__")) fd ps (spI X.K fns)) (hr : Room 2 X.A) (hb : Binds X.K fd ps []) (hm : X.mg c = some (.ref (He.ga X.K c))) (hs : fns.length ≤ 1000)
    (hdb : (c == ("__debug__" : Str)) = false := by decide +kernel) : XMk X c fns := fun e es t p pos ha mn hg he hpl pins s σ H Q I h => by
  refine pmk_oex (ds := []) (dvs := []) T iC tI F1 hr hb .nil (passes_call C.tk fun _ _ _ _ z => z.elim) (gl_of hg) hm ha hdb he hpl pins s σ H Q I ?_
  refine mn _ _ _ _ (fun vs H1 ⟨hl, hq⟩ => ⟨by rw [hl]; exact hs, fun a na => ?_⟩) h
  rw [List.append_nil]
  refine ⟨a, He.ga X.K c, vs, rfl, hl, T, hno, upd_same, fun dx hdx ne => ⟨rfl, dx, (fns.zip vs).reverse, upd_same, (upd_ne ne).trans upd_same, ?_, ?_⟩⟩
  · rw [upd_ne ne] at hdx
    exact hdx
  · have e2 : upd (L2.del (upd (upd (upd H1 a (exo a (He.ga X.K c) none)) dx (exd dx (fns.zip vs).reverse)) a (exo a (He.ga X.K c) (some dx))) a) dx (.xd (fns.zip vs).reverse) = upd H1 dx (.xd (fns.zip vs).reverse) := by
      funext b
      by_cases h1 : b = dx
      · rw [h1, upd_same, upd_same]
      · rw [upd_ne h1, upd_ne h1]
        by_cases h2 : b = a
        · rw [h2, L2.del_same, na]
        · rw [L2.del_ne h2, upd_ne h2, upd_ne h1, upd_ne h2]
    rw [e2]
    rw [upd_ne ne] at hdx
    exact hq dx hdx
end
end PD
set_option Elab.async false
set_option linter.all false
set_option maxRecDepth 100000
set_option maxHeartbeats 4000000
set_option autoImplicit false
namespace PD
open PySem PySem.Spec PyProof.Rows L2
open L2H (RoomH)
structure FnQ (P : Program) (w : World) (K : PySem.W.Frag) (mg : Str → Option Value) (base : Heap) (k : Nat) (f : Addr) (fd : FuncData) (ps : List Str) (sp : Sp) : Prop where
  len : ∀ vs H Q E, sp vs H Q E → vs.length = ps.length
  run : ∀ (A : Around) (outer : List Env) (s : Shared) (H : Hp) (args : Args) (us : List Value) (vs : List V) (Q : VK) (E : XK), RoomH k A → Env0 P w K mg base A outer s H → BindsTo s fd args (ps.zip us) → Vals vs us → sp vs H Q E →
    codeAny (model P w) A (.call (.ref f) args) (CR (L2.CX P w) outer P w H s Q E) s
section
variable {P : Program} {w : World} {K : PySem.W.Frag} {mg : Str → Option Value} {base : Heap} {N ps : List Str} {qual : Str} {scope : Scope} {f : Addr} {cd : Value} {A : Around} {outer : List Env} {s s1 : Shared} {H : Hp} {E : XK} {us : List Value} {vs : List V}
end
structure HereQ (X : Cx) (W : WX) (P : Program) (w : World) (K : PySem.W.Frag) (mg : Str → Option Value) (base : Heap) (scope : Scope) (N : List Str) (k : Nat) : Prop where
  cf : Cf0 X W scope N
  prog : X.prog = P
  w : X.w = w
  K : X.K = K
  mg : X.mg = mg
  base : X.base = base
  room : RoomH k X.A
  fn : ∀ x, X.fn x = true
section
variable {P : Program} {w : World} {K : PySem.W.Frag} {mg : Str → Option Value} {base : Heap} {N ps : List Str} {name qual : Str} {scope : Scope} {f : Addr} {k : Nat} {params : Arguments} {body : List Stmt} {dvs : List V} {kws : List (Str × V)} {fd : FuncData}
end
def CleeQ (X : Cx) (x : Str) (dvs : List V) (sp : Sp) : Prop :=
  ∃ (k : Nat) (f : Addr) (fd : FuncData) (ps : List Str) (ds : List Value), FnQ X.prog X.w X.K X.mg X.base k f fd ps sp ∧ RoomH k X.A ∧ X.mg x = some (.ref f) ∧ PySem.W.keepIn X.K (.ref f) = true ∧ Binds X.K fd ps ds ∧ Vals dvs ds
section
variable {X : Cx} {W : WX} {sc : Scope} {N : List Str} {x : Str} {e : Expr} {es : List Expr} {p pos : Pos} {k : DA} {dvs : List V} {dds : List PyData} {m : List Ar → R (Rs × List Sl)} {t : TA}
theorem CleeQ.suite {sp : Sp} (h : CleeQ X x dvs sp) (a : Addr) (pn : List (Addr × Obj)) : CleeQ (X.suite a pn) x dvs sp := by
  obtain ⟨k, f, fd, ps, ds, h1, h2, h3⟩ := h
  exact ⟨k, f, fd, ps, ds, h1, ⟨h2.dp, h2.un⟩, h3⟩
end
def GvQ (P : Program) (w : World) (K : PySem.W.Frag) (mg : Str → Option Value) (base : Heap) (k : Nat) (x : Str) (dvs : List V) (sp : Sp) : Prop :=
  ∃ (f : Addr) (fd : FuncData) (ps : List Str) (ds : List Value), FnQ P w K mg base k f fd ps sp ∧ mg x = some (.ref f) ∧ PySem.W.keepIn K (.ref f) = true ∧ Binds K fd ps ds ∧ Vals dvs ds
theorem GvQ.u {P : Program} {w : World} {K : PySem.W.Frag} {mg : Str → Option Value} {base : Heap} {k k' : Nat} {x : Str} {dvs : List V} {m : List Ar → R (Rs × List Sl)} {scope : Scope} {X : Cx} {W : WX} {N : List Str} (g : GvQ P w K mg base k x dvs (spU K mg m)) (h : Here X W P w K mg base scope N k') (hk : k ≤ k') : CleeQ X x dvs (spU X.K X.mg m) := by
  obtain ⟨f, fd, ps, ds, h1, h2, h3, h4, h5⟩ := g
  have e1 := h.prog
  have e2 := h.w
  have e3 := h.K
  have e4 := h.mg
  have e5 := h.base
  subst e1 e2 e3 e4 e5
  exact ⟨k, f, fd, ps, ds, h1, (L2H.roomH_of h.room).mono hk, h2, h3, h4, h5⟩
end PD
set_option Elab.async false
set_option linter.all false
set_option maxRecDepth 100000
set_option maxHeartbeats 4000000
set_option autoImplicit false
namespace PD
open PySem PySem.Spec L2
theorem Clee.tr {X : Cx} {x : Str} {dvs : List V} {sp : Sp} (h : Clee X x dvs sp) {pn : List (Addr × Obj)} {xe : Value → Shared → Prop} : Clee (X.tr pn xe) x dvs sp := h
theorem CleeK.tr {X : Cx} {x : Str} {n : Nat} {ks : List Str} {dvs : List V} {sp : Sp} (h : CleeK X x n ks dvs sp) {pn : List (Addr × Obj)} {xe : Value → Shared → Prop} : CleeK (X.tr pn xe) x n ks dvs sp := h
theorem all_nil {p : Str → Prop} : ∀ c ∈ ([] : List Str), p c := fun c h => by cases h
theorem all_cons {p : Str → Prop} {a : Str} {as : List Str} (h : p a) (r : ∀ c ∈ as, p c) : ∀ c ∈ a :: as, p c := fun c hc => by
  rcases List.mem_cons.mp hc with z | z
  · rw [z]; exact h
  · exact r c z
def isInit : Stmt → Bool
  | .FunctionDef n _ _ _ _ _ _ _ _ _ => decide (n = "__init__")
  | _ => false
def clsInit : Stmt → Stmt
  | .ClassDef _ _ _ body _ _ _ _ _ _ _ => (body.find? isInit).getD (.Pass ⟨0, 0, 0, 0⟩)
  | s => s
def iniB (K : PySem.W.Frag) (c : Str) : Bool := oexB K (He.ga K c) && (decide (PySem.W.findIn K (.ref (He.ga K c)) "__init__" = some (some (.ref (He.fAd K (c, some "__init__"))))) && decide (PySem.W.typeIn K (.ref (He.fAd K (c, some "__init__"))) = some (.type "function")))
structure IniC (K : PySem.W.Frag) (c : Str) : Prop where
  T : OexC K (He.ga K c)
  iC : PySem.W.findIn K (.ref (He.ga K c)) "__init__" = some (some (.ref (He.fAd K (c, some "__init__"))))
  tI : PySem.W.typeIn K (.ref (He.fAd K (c, some "__init__"))) = some (.type "function")
theorem iniB_ok {K : PySem.W.Frag} {c : Str} (h : iniB K c = true) : IniC K c := by
  unfold iniB at h
  simp only [Bool.and_eq_true] at h
  exact ⟨oexB_ok h.1, of_decide_eq_true h.2.1, of_decide_eq_true h.2.2⟩
def Sh1 (f : Str) (body : List Stmt) : Prop := ∃ (msg : Str) (j : Nat) (q1 q2 q3 q4 q5 q6 q7 q8 q9 q10 : Pos), body = [.Expr (.Call (.Attribute (.Name "HuntError" q1) "__init__" q2) [.Name "self" q3, .Constant (.str msg) j q4] [] q5) q6, .Assign [.Attribute (.Name "self" q7) f q8] (.Name f q9) q10] ∧
  ∀ env : Env, ∃ pl : Sem Bool, eval (.Call (.Attribute (.Name "HuntError" q1) "__init__" q2) [.Name "self" q3, .Constant (.str msg) j q4] [] q5) env = (do
    let ov ← eval (.Name "HuntError" q1) env
    standAt q2.atName
    let (f, first) ← holding [ov] (getMethod ov "__init__" pl)
    callWith q5 f first (backTo q5 (starEach [.Name "self" q3, .Constant (.str msg) j q4] env)) (backToKw q5 (keywordEach [] env)))
section
variable {P : Program} {w : World} {K : PySem.W.Frag} {mg : Str → Option Value} {base : Heap} {X : Cx} {W : WX} {scope : Scope} {N : List Str} {k : Nat} {xs ds hs fs : List Str} {c f f2 qual : Str} {params : Arguments} {body : List Stmt} {sc : Scope} {fd : FuncData}
theorem xm1 (h : Here X W P w K mg base scope N k) (hk : 2 ≤ k) (F : FunD K "__init__" qual params body sc [] [] (He.fAd K (c, some "__init__")) fd) (B : Binds K fd ["self", f] []) (I : IniC K c) (A : XAll K mg xs ds hs fs) (T : HuntC K (He.ga K "HuntError")) (hm : mg "HuntError" = some (.ref (He.ga K "HuntError")))
    (hc : c ∈ xs) (hf : f ∈ fs) (S : FnScope ["self", f] ["self", f] sc) (hbd : Sh1 f body) (g : glB sc "HuntError" = true) (v0 : visB sc "self" = true) (v1 : visB sc f = true) (hf1 : (f == ("__debug__" : Str)) = false := by decide +kernel) (hf2 : (f == ("__classdict__" : Str)) = false := by decide +kernel)
    (hdb : (c == ("__debug__" : Str)) = false := by decide +kernel) : XMk X c [f] := by
  obtain ⟨msg, j, q1, q2, q3, q4, q5, q6, q7, q8, q9, q10, hb, he⟩ := hbd
  have e1 := h.prog
  have e2 := h.w
  have e3 := h.K
  have e4 := h.mg
  have e5 := h.base
  subst e1 e2 e3 e4 e5
  have hno : ∀ n ∈ [f], PySem.W.findIn X.K (.ref (He.ga X.K c)) n = some none := fun n hn => by
    have : n = f := by simpa using hn
    rw [this]
    exact A.fld c hc f hf
  exact xmk_of h.cf.toCf0 I.T I.iC I.tI hno (fi1 F S hb he g v0 v1 hm T hf1 hf2) (h.room.mono hk) B (A.mgc c hc) (by simp) hdb
end
def obsX (fx : List (PySem.W.Frag → Bool)) (fa : List He.Fa) (fn : List He.DefD) (K : PySem.W.Frag) : He.AlD := ((fx.all fun f => f K) && (He.obsD fa fn K).1, (He.obsD fa fn K).2)
def SaysX (fx : List (PySem.W.Frag → Bool)) (fa : List He.Fa) (fn : List He.DefD) (K : PySem.W.Frag) : Prop := obsX fx fa fn K = He.valD fn
def obsXG (n : Nat) (fx : List (PySem.W.Frag → Bool)) (fa : List He.Fa) (fn : List He.DefD) (g : Addr → Option Obj) : He.AlD := obsX fx fa fn (He.frG g (He.asD g n ++ [PySem.cStatics]))
def hookX (n : Nat) (fx : List (PySem.W.Frag → Bool)) (fa : List He.Fa) (fn : List He.DefD) : PySem.W.Hook where
  α := He.AlD
  obs := fun s => obsXG n fx fa fn s.heap.get?
  val := fun _ => He.valD fn
  says := fun _ h => ∃ K : PySem.W.Frag, K.In h ∧ SaysX fx fa fn K
  of := fun _ _ e => ⟨_, He.frG_in, e⟩
  keeps := fun _ _ _ ⟨K, hK, c⟩ k => ⟨K, PySem.W.Frag.In.keeps hK k, c⟩
theorem obsXG_eq {n : Nat} {fx : List (PySem.W.Frag → Bool)} {fa : List He.Fa} {fn : List He.DefD} {g : Addr → Option Obj} {s : Shared} (h : ∀ a, g a = s.heap.get? a) : obsXG n fx fa fn g = (hookX n fx fa fn).obs s := by
  have e : g = s.heap.get? := funext h
  rw [e] <;> rfl
theorem SaysX.d {fx : List (PySem.W.Frag → Bool)} {fa : List He.Fa} {fn : List He.DefD} {K : PySem.W.Frag} (c : SaysX fx fa fn K) : He.SaysD fa fn K := by
  have c : ((fx.all fun f => f K) && (He.obsD fa fn K).1, (He.obsD fa fn K).2) = He.valD fn := c
  have e1 : ((fx.all fun f => f K) && (He.obsD fa fn K).1) = true := congrArg (fun z : He.AlD => z.1) c
  have e2 : (He.obsD fa fn K).2 = (He.valD fn).2 := (Prod.mk.inj (c.trans (show He.valD fn = ((He.valD fn).1, (He.valD fn).2) from rfl))).2
  exact Prod.ext (Bool.and_eq_true_iff.mp e1).2 e2
theorem SaysX.x {fx : List (PySem.W.Frag → Bool)} {fa : List He.Fa} {fn : List He.DefD} {K : PySem.W.Frag} (c : SaysX fx fa fn K) (i : Nat) {f : PySem.W.Frag → Bool} (h : fx[i]? = some f := by rfl) : f K = true := by
  have c : ((fx.all fun f => f K) && (He.obsD fa fn K).1, (He.obsD fa fn K).2) = He.valD fn := c
  have e1 : ((fx.all fun f => f K) && (He.obsD fa fn K).1) = true := congrArg (fun z : He.AlD => z.1) c
  exact List.all_eq_true.mp (Bool.and_eq_true_iff.mp e1).1 f (List.mem_of_getElem? h)
end PD
set_option Elab.async false
set_option linter.all false
set_option maxRecDepth 100000
set_option maxHeartbeats 4000000
set_option autoImplicit false
namespace PD
open PySem PySem.Spec L2
open PyProof.Rows hiding St
section
variable {X : Cx} {W : WX} {sc : Scope} {N : List Str} {a b e o : Expr} {p p2 pos apos cpos : Pos} {f g h : DF}
end
end PD
set_option Elab.async false
set_option linter.all false
set_option maxRecDepth 100000
set_option maxHeartbeats 4000000
set_option autoImplicit false
namespace PD
open PySem PySem.Spec L2
open PyProof.Rows hiding St
def GT (K : PySem.W.Frag) (mg : Str → Option Value) (x : Str) (vs : List V) (ds : List PyData) : Prop := mg x = some (.ref (He.ga K x)) ∧ (∀ H, SqT K H (He.ga K x) vs) ∧ ∀ G H, DnA K G H vs ds
def dIxG (ds : List PyData) (f : DF) : DF := fun Γ => (f Γ).bind fun x => match x.1 with
  | .d _ (.int i) => (R.ofO (atI ds i)).bind fun d => .val (.d true d, x.2)
  | _ => .bad
section
variable {X : Cx} {W : WX} {sc : Scope} {N : List Str} {e : Expr} {p pos : Pos} {f : DF} {x : Str} {vs : List V} {ds : List PyData}
theorem ce_ixG (C : Cf0 X W sc N) (T : GT X.K X.mg x vs ds) (hg : glB sc x = true) (hf : ds.all flat = true) (ha : CE X W e f) (hs : PlainIx e := by exact fun _ _ => rfl) (hdb : (x == ("__debug__" : Str)) = false := by decide +kernel) : CE X W (.Subscript (.Name x p) e pos) (dIxG ds f) := fun Γ => by
  have hT : PE X (.Name x p) (tC (.ref (He.ga X.K x))) := pe_glob (C.gl hg) T.1 rfl hdb
  refine pe_imp (pe_ix ix_seq hT (ha Γ) hs) fun σ H Q ⟨G, S, q⟩ => ⟨G, S, (Pst.bind q).imp fun z G1 H1 e1 p1 v S1 hv => ?_⟩
  split at p1
  · rename_i fr i hz
    rw [hz] at hv
    obtain ⟨d, hd, p1⟩ := Pst.ofO p1
    obtain ⟨w, g3, g4⟩ := atI_dn (T.2.2 (rg G1 true) H1) hd
    exact .inr (.inl ⟨_, vs, i, w, rfl, dn_int hv, T.2.1 H1, g3, p1 G1 H1 (Ext.rf S1.w) w S1 g4⟩)
  · exact p1.elim
end
end PD
set_option Elab.async false
set_option linter.all false
set_option maxRecDepth 100000
set_option maxHeartbeats 4000000
set_option autoImplicit false
namespace PD
open PySem PySem.Spec L2
open PyProof.Rows hiding St
def tLk (t : TE) : TE := fun σ H Q => t σ H fun v H1 => Q v H1 ∨ ∃ d u, H1 d = some u ∧ Mut (some u) ∧ ∀ od, Q v (upd H1 d (.frz od u))
theorem pe_lk {X : Cx} {e : Expr} {t : TE} (h : PE X e t) : PE X e (tLk t) := by
  refine ⟨fun pins s σ H Q I hw => ?_⟩
  refine thn (h.run pins s σ H _ I hw) fun v s1 ⟨x, H1, I1, r, q⟩ => ?_
  rcases q with q | ⟨d, u, hd, mu, q⟩
  · exact ⟨x, H1, I1, r, q⟩
  · obtain ⟨od, I2⟩ := I1.lock hd mu
    exact ⟨x, _, I2, r, q od⟩
def frzK : AV × List Sl → R (AV × List Sl)
  | (.s i, Γ) => match Γ[i]? with
    | some (.own (.dic _ kvs)) => .val (.d true (.dict kvs), Γ.set i (.dat true (.dict kvs)))
    | _ => frzA (.s i, Γ)
  | z => frzA z
def dFrzK (f : DF) : DF := fun Γ => (f Γ).bind frzK
section
variable {X : Cx} {W : WX} {sc : Scope} {N : List Str} {e tg : Expr} {apos cpos p : Pos} {f : DF}
theorem frzK_ok {G : Gh} {H : Hp} {σ : St} {x : AV} {Γ : List Sl} {v : V} {Q : VK} (S : Sta X.K G H σ Γ) (hv : AVok X.K G H σ v x) (p : Pk X W G H σ (frzK (x, Γ)) Q) : Q v H ∨ ∃ d u, H d = some u ∧ Mut (some u) ∧ ∀ od, Q v (upd H d (.frz od u)) := by
  unfold frzK at p
  split at p
  · rename_i i Γ2 hz
    cases hz
    split at p
    · rename_i t kvs hi
      obtain ⟨d, u, hd, mu, k⟩ := S.lockDic i hi
      refine .inr ⟨d, u, hd, mu, fun od => ?_⟩
      obtain ⟨G2, S2, e2⟩ := k od
      have h2 : (Γ.set i (.dat true (.dict kvs)))[i]? = some (.dat true (.dict kvs)) := set_at (List.getElem?_eq_some_iff.mp hi).1
      obtain ⟨A2, T2⟩ := id S2
      obtain ⟨_, w, g1, g2⟩ := T2.sl i _ h2
      have hv : σ[i]? = some (some v) := hv
      rw [hv] at g1
      cases g1
      exact Pk.v' p e2 S2 g2
    · exact .inl (frz_ok S hv p)
  · exact .inl (frz_ok S hv p)
theorem ce_frzK (ha : CE X W e f) : CE X W e (dFrzK f) := fun Γ =>
  pe_imp (pe_lk (ha Γ)) fun σ H Q ⟨G, S, q⟩ => ⟨G, S, (Pst.bind q).imp fun x G1 H1 e1 p1 v S1 hv => frzK_ok (x := x.1) (Γ := x.2) S1 hv p1⟩
theorem ce_appendK (C : Cf0 X W sc N) (i : Nat) {x : Str} (hN : N[i]? = some x) (hv : visB sc x = true) (ha : CE X W e f) (hs : starEach [e] X.env = (false, eval e X.env) :: starEach [] X.env := by rfl) (hd : (x == ("__debug__" : Str)) = false := by decide +kernel) (hcd : (x == ("__classdict__" : Str)) = false := by decide +kernel) (hline : (apos.endLine == cpos.line) = true := by rfl)
    (hbase : attributeBase (.Name x p) "append" X.env (eval (.Name x p) X.env) = eval (.Name x p) X.env := by rfl) : CE X W (.Call (.Attribute (.Name x p) "append" apos) [e] [] cpos) (dLm i qAppend (dAc (dFrzK f) dA0)) := by
  refine ce_lm C qAppend PySem.F.slot_list_append PySem.F.type_list_append mt_append (fun as ds G H σ p ws Q hp hd vs av y hy => ?_) i hN hv (ca_cons (ce_frzK ha) ca_nil hs) (fun ds as z h => ?_) hd hcd (by rw [hs]; rfl) hline hs rfl hbase
  · unfold qAppend at hy
    split at hy
    · rename_i z
      obtain ⟨hc, rfl⟩ := gq_val hy
      obtain ⟨v, rfl, hv⟩ := avs_one av
      have hv : Dn X.K (rg G true) H v z := hv
      exact ⟨ws ++ [v], .non, hd.append (.cons hv .nil), .non, fun q => ⟨p, ws, v, rfl, rfl, hp, by rw [hd.length]; exact of_decide_eq_true hc, q⟩⟩
    · cases hy
  · unfold qAppend at h
    split at h
    · exact gq_nox h
    · cases h
theorem kV_dn {K : PySem.W.Frag} {G : Rg} {H : Hp} (k : Key) : Dn K G H (kV k) (keyD k) := by
  cases k with
  | inl i => exact .int i
  | inr x => exact .str x
theorem itd_keys {K : PySem.W.Frag} {G : Gh} {H : Hp} {a : Addr} {o : Obj} {ks : List (Key × V)} {fr fr2 : Bool} (h : rg G fr a (.frz o (.dK ks))) : ItD K G H (Itk a o ks) (ks.map fun z => keyD z.1) fr2 := by
  have sq : ∀ G2 H2, Le G H G2 H2 → H2 a = some (.frz o (.dK ks)) := fun G2 H2 e => e.w.rgl fr _ _ (e.rgl fr _ _ h)
  refine ⟨fun i G2 H2 hi e => ⟨sq G2 H2 e, by simpa using hi⟩, fun i G2 H2 σ Γ v H3 hi e S y => ?_, fun G2 H2 e => ⟨sq G2 H2 e, by simp⟩⟩
  obtain ⟨rfl, k, w, hk, rfl⟩ := y
  exact ⟨G2, keyD k, by rw [List.getElem?_map, hk]; rfl, Ext.rf S.w, S, kV_dn k⟩
def keyA : AV → Option (List PyData × Bool)
  | .d _ (.dict kvs) => match kindD kvs with
    | some .k => some (kvs.map (·.1), true)
    | _ => none
  | _ => none
def iKeyD (f : DF) : DI := fun Γ => (f Γ).bind fun z => (R.ofO (keyA z.1)).bind fun y => .val (y, z.2)
theorem ci_keyD (h : CE X W e f) : CI X W tg e (iKeyD f) := fun Γ => by
  have h := h Γ
  unfold iKeyD
  cases hf : f Γ with
  | bad => exact pi_no fun σ H Q ⟨G, S, q⟩ => q
  | exc x =>
    rw [hf] at h
    exact pi_imp (pi_keys h) fun σ H Q ⟨G, S, q⟩ => ⟨G, S, q⟩
  | val z =>
    rw [hf] at h
    obtain ⟨y, Γ1⟩ := z
    cases hy : keyA y with
    | none =>
      refine pi_no fun σ H Q ⟨G, S, q⟩ => ?_
      have q : Pst X W G H σ ((R.ofO (keyA y)).bind fun y => R.val (y, Γ1)) (fun r G' H' => ∀ J, Sta X.K G' H' σ r.2 → ItD X.K G' H' J r.1.1 r.1.2 → Q J H') := q
      rw [hy] at q
      exact q
    | some w =>
      have key : ∀ {σ H Q}, rdIU X W Γ ((R.val (y, Γ1)).bind fun z => (R.ofO (keyA z.1)).bind fun y => .val (y, z.2)) σ H Q → ∃ G, Sta X.K G H σ Γ ∧ ∀ G' H', Ext G H G' H' → ∀ J, Sta X.K G' H' σ Γ1 → ItD X.K G' H' J w.1 w.2 → Q J H' := fun {σ H Q} ⟨G, S, q⟩ => by
        have q : Pst X W G H σ ((R.ofO (keyA y)).bind fun y => R.val (y, Γ1)) (fun r G' H' => ∀ J, Sta X.K G' H' σ r.2 → ItD X.K G' H' J r.1.1 r.1.2 → Q J H') := q
        rw [hy] at q
        exact ⟨G, S, q⟩
      unfold keyA at hy
      split at hy
      · rename_i fr kvs
        split at hy
        · rename_i hk
          cases hy
          refine pi_imp (pi_keys h) fun σ H Q z => ?_
          obtain ⟨G, S, q⟩ := key z
          refine ⟨G, S, fun G' H' e' v S' a => ?_⟩
          obtain ⟨l, o, t', vs, rfl, ⟨ob, h1⟩, h2, h3⟩ := dn_dict a hk
          have := kindD_ok hk h2
          subst this
          obtain ⟨ks, rfl, hks, _⟩ := h2
          refine ⟨l, ob, rfl, .inl ⟨ks, S'.w.rgl _ _ _ h1, q G' H' e' _ S' ?_⟩⟩
          show ItD X.K G' H' (Itk l ob ks) (kvs.map (·.1)) true
          rw [hks]
          exact itd_keys h1
        · cases hy
      · cases hy
end
end PD
set_option Elab.async false
set_option linter.all false
set_option maxRecDepth 100000
set_option maxHeartbeats 4000000
set_option autoImplicit false
namespace PD
open PySem PySem.Spec L2
open PyProof.Rows hiding St
section
variable {X : Cx} {W : WX} {sc : Scope} {N : List Str} {a b : Expr} {pos : Pos} {f g : DF}
end
end PD
set_option Elab.async false
set_option linter.all false
set_option maxRecDepth 100000
set_option maxHeartbeats 4000000
set_option autoImplicit false
namespace PD
open PySem L2
def pickP {α : Type} (pm : List Nat) (xs : List α) : List α := pm.filterMap fun i => xs[i]?
theorem Vals.pickP {xs : List V} {us : List Value} (h : Vals xs us) (pm : List Nat) : Vals (pickP pm xs) (pickP pm us) := by
  induction pm with
  | nil => exact .nil
  | cons i r ih =>
    unfold PD.pickP at ih ⊢
    rw [List.filterMap_cons, List.filterMap_cons]
    cases hx : xs[i]? with
    | none =>
      have : us[i]? = none := by
        rw [List.getElem?_eq_none_iff] at hx ⊢
        rw [← h.length]; exact hx
      rw [this]
      exact ih
    | some x =>
      obtain ⟨u, hu, r⟩ := h.get hx
      rw [hu]
      exact .cons r ih
section
variable {X : Cx} {W : WX} {sc : Scope} {N : List Str} {a b c e : Expr} {es : List Expr} {pos p : Pos} {Γ : List Sl}
theorem AVs.get {K : PySem.W.Frag} {G : Gh} {H : Hp} {σ : St} : ∀ {vs : List V} {as : List AV}, AVs K G H σ vs as → ∀ i : Nat, (vs[i]? = none ∧ as[i]? = none) ∨ ∃ v a, vs[i]? = some v ∧ as[i]? = some a ∧ AVok K G H σ v a
  | _, _, .nil, i => .inl ⟨by simp, by simp⟩
  | _, _, .cons h t, 0 => .inr ⟨_, _, by simp, by simp, h⟩
  | _, _, .cons h t, i + 1 => by simpa using AVs.get t i
theorem AVs.pickP {K : PySem.W.Frag} {G : Gh} {H : Hp} {σ : St} {vs : List V} {as : List AV} (h : AVs K G H σ vs as) (pm : List Nat) : AVs K G H σ (pickP pm vs) (pickP pm as) := by
  induction pm with
  | nil => exact .nil
  | cons i r ih =>
    unfold PD.pickP at ih ⊢
    rw [List.filterMap_cons, List.filterMap_cons]
    rcases h.get i with ⟨e1, e2⟩ | ⟨v, a, e1, e2, hv⟩
    · rw [e1, e2]; exact ih
    · rw [e1, e2]; exact .cons hv ih
def GvP (P : Program) (w : World) (K : PySem.W.Frag) (mg : Str → Option Value) (base : Heap) (k : Nat) (x : Str) (n : Nat) (ks : List Str) (pm : List Nat) (dvs : List V) (sp : Sp) : Prop :=
  ∃ (f : Addr) (fd : FuncData) (ps : List Str) (its : List Value), FnOk P w K mg base (L2.CX P w) k f fd ps sp ∧ mg x = some (.ref f) ∧ PySem.W.keepIn K (.ref f) = true ∧ KBn K fd ps n ks (fun us ws => pickP pm (us ++ ws ++ its)) (fun vs zs => pickP pm (vs ++ zs ++ dvs))
def CleeP (X : Cx) (x : Str) (n : Nat) (ks : List Str) (pm : List Nat) (dvs : List V) (sp : Sp) : Prop :=
  ∃ (k : Nat) (f : Addr) (fd : FuncData) (ps : List Str) (its : List Value), FnOk X.prog X.w X.K X.mg X.base (L2.CX X.prog X.w) k f fd ps sp ∧ Room k X.A ∧ X.mg x = some (.ref f) ∧ PySem.W.keepIn X.K (.ref f) = true ∧ KBn X.K fd ps n ks (fun us ws => pickP pm (us ++ ws ++ its)) (fun vs zs => pickP pm (vs ++ zs ++ dvs))
theorem GvP.clee {P : Program} {w : World} {K : PySem.W.Frag} {mg : Str → Option Value} {base : Heap} {k k' : Nat} {x : Str} {n : Nat} {ks : List Str} {pm : List Nat} {dvs : List V} {sp : Sp} {scope : Scope} (g : GvP P w K mg base k x n ks pm dvs sp) (h : Here X W P w K mg base scope N k') (hk : k ≤ k') : CleeP X x n ks pm dvs sp := by
  obtain ⟨f, fd, ps, its, g1, g2, g3, g4⟩ := g
  refine ⟨k, f, fd, ps, its, ?_, h.room.mono hk, ?_, ?_, ?_⟩
  · rw [h.prog, h.w, h.K, h.mg, h.base]; exact g1
  · rw [h.mg]; exact g2
  · rw [h.K]; exact g3
  · rw [h.K]; exact g4
theorem CleeP.blk {x : Str} {n : Nat} {ks : List Str} {pm : List Nat} {dvs : List V} {sp : Sp} (h : CleeP X x n ks pm dvs sp) {s : Shared} {H : Hp} {scope : Scope} {ce : Env} {fp : List Addr} : CleeP (X.blk s H scope ce fp) x n ks pm dvs sp := h
theorem GvP.u {P : Program} {w : World} {K : PySem.W.Frag} {mg : Str → Option Value} {base : Heap} {k k' : Nat} {x : Str} {n : Nat} {ks : List Str} {pm : List Nat} {dvs : List V} {m : List Ar → R (Rs × List Sl)} {scope : Scope} (g : GvP P w K mg base k x n ks pm dvs (spU K mg m)) (h : Here X W P w K mg base scope N k') (hk : k ≤ k') : CleeP X x n ks pm dvs (spU X.K X.mg m) := by
  have := g.clee h hk
  rw [h.K, h.mg]
  exact this
end
section
variable {X : Cx} {W : WX} {sc : Scope} {N : List Str} {a b c e : Expr} {es : List Expr} {pos p : Pos} {f : DF} {x : Str} {dvs : List V} {dds : List PyData} {m : List Ar → R (Rs × List Sl)} {kws : List Keyword} {ks : List Str} {n : Nat} {pm : List Nat} {k kk : DA}
end
end PD
set_option Elab.async false
set_option linter.all false
set_option maxRecDepth 100000
set_option maxHeartbeats 4000000
set_option autoImplicit false
namespace PD
open PySem PySem.Spec L2 Srt SrtO
open PyProof.Rows hiding St
section
variable {prog : Program} {w : World} {A : Around} {E : Value → Shared → Prop} {s : Shared} {l : Addr} {vs : List Value}
end
section
variable {X : Cx} {W : WX} {sc : Scope} {N : List Str} {a e : Expr} {p pos : Pos} {k : DA}
end
end PD
set_option Elab.async false
set_option linter.all false
set_option maxRecDepth 100000
set_option maxHeartbeats 4000000
set_option autoImplicit false
namespace PD
open PySem PySem.Spec L2
open PyProof.Rows hiding St
mutual
theorem dn_nested {K : PySem.W.Frag} {G : Rg} {H : Hp} {P : Program} {w : World} {h : Heap} (ok : HOk P w H h) : ∀ {v : V} {d : PyData}, Dn K G H v d → ∀ {k : NestedKey} {u : Value}, nkD d = some k → RelV v u → NestedIs h k u
  | _, _, .non, k, u, e, r => by rw [nkD] at e; cases e; cases r; exact .none
  | _, _, .bl b, k, u, e, r => by rw [nkD] at e; cases e; cases r; exact .bool rfl
  | _, _, .int i, k, u, e, r => by
    rw [nkD] at e; cases e
    obtain ⟨t, rfl⟩ := r
    exact .int i t
  | _, _, .str x, k, u, e, r => by simp [nkD] at e
  | _, _, .lst _ _, k, u, e, r => by simp [nkD] at e
  | _, _, .tup (xs := xs) (ds := ds) h1 a, k, u, e, r => by
    rw [nkD] at e
    cases e2 : nkDs ds with
    | none => rw [e2] at e; cases e
    | some ks =>
      rw [e2] at e; cases e
      cases r
      obtain ⟨_, its, rv, o, ho, hc, n, hd⟩ := (show ObjOk P w H h _ (.tup xs) from ok _ _ h1)
      exact .tup ho hc hd (by simpa using dna_nested ok a e2 rv)
  | _, _, .dct _ _ _, k, u, e, r => by simp [nkD] at e
  | _, _, .exc _ _ _ _, k, u, e, r => by simp [nkD] at e
  | _, _, .exc0 _, k, u, e, r => by simp [nkD] at e
  | _, _, .ins _ _ _ _, k, u, e, r => by simp [nkD] at e
  | _, _, .dcu _ _ _, k, u, e, r => by simp [nkD] at e
theorem dna_nested {K : PySem.W.Frag} {G : Rg} {H : Hp} {P : Program} {w : World} {h : Heap} (ok : HOk P w H h) : ∀ {vs : List V} {ds : List PyData}, DnA K G H vs ds → ∀ {ks : List NestedKey} {us : List Value}, nkDs ds = some ks → Vals vs us → NestedAll h ks us
  | _, _, .nil, ks, us, e, r => by rw [nkDs] at e; cases e; cases r; exact .nil
  | _, _, .cons (d := d) (ds := ds) h1 a, ks, us, e, r => by
    rw [nkDs] at e
    cases e1 : nkD d with
    | none => rw [e1] at e; cases e
    | some k =>
      rw [e1] at e
      cases e2 : nkDs ds with
      | none => rw [e2] at e; cases e
      | some ks2 =>
        rw [e2] at e; cases e
        cases r with
        | cons r1 r2 => exact .cons (dn_nested ok h1 e1 r1) (dna_nested ok a e2 r2)
end
def encN (l : List (PyData × PyData)) : List (PyData × PyData) := (.none, .none) :: l.flatMap fun z => [(z.1, z.2), (.none, z.1)]
mutual
def eqN : PyData → PyData → Bool
  | .none, .none => true
  | .bool a, .bool b => a == b
  | .int a, .int b => decide (a = b)
  | .tuple a, .tuple b => eqNs a b
  | _, _ => false
def eqNs : List PyData → List PyData → Bool
  | [], [] => true
  | a :: as, b :: bs => eqN a b && eqNs as bs
  | _, _ => false
end
mutual
theorem eqN_ok : ∀ a b : PyData, eqN a b = true → a = b
  | .none, b, h => by cases b <;> simp [eqN] at h; rfl
  | .bool x, b, h => by cases b <;> simp [eqN] at h; rw [h]
  | .int x, b, h => by cases b <;> simp [eqN] at h; rw [h]
  | .tuple xs, b, h => by cases b <;> simp [eqN] at h; rw [eqNs_ok xs _ h]
  | .str x, b, h => by simp [eqN] at h
  | .list x, b, h => by simp [eqN] at h
  | .dict x, b, h => by simp [eqN] at h
theorem eqNs_ok : ∀ a b : List PyData, eqNs a b = true → a = b
  | [], b, h => by cases b <;> simp [eqNs] at h; rfl
  | x :: xs, b, h => by
    cases b with
    | nil => simp [eqNs] at h
    | cons y ys =>
      rw [eqNs, Bool.and_eq_true] at h
      rw [eqN_ok x y h.1, eqNs_ok xs ys h.2]
end
def decL : List (PyData × PyData) → Option (List (PyData × PyData))
  | [] => some []
  | (k, v) :: (.none, k2) :: r => if eqN k k2 then (decL r).map ((k, v) :: ·) else none
  | _ => none
def decN : List (PyData × PyData) → Option (List (PyData × PyData))
  | (.none, .none) :: r => decL r
  | _ => none
theorem decL_ok : ∀ (r l : List (PyData × PyData)), decL r = some l → r = l.flatMap fun z => [(z.1, z.2), (.none, z.1)]
  | [], l, h => by rw [decL] at h; cases h; rfl
  | (k, v) :: (.none, k2) :: r, l, h => by
    rw [decL] at h
    split at h
    · rename_i e
      cases e2 : decL r with
      | none => rw [e2] at h; cases h
      | some l2 =>
        rw [e2] at h; cases h
        rw [decL_ok r l2 e2, eqN_ok _ _ e]
        rfl
    · cases h
  | [_], l, h => by simp [decL] at h
  | (k, v) :: (.bool _, k2) :: r, l, h => by simp [decL] at h
  | (k, v) :: (.int _, k2) :: r, l, h => by simp [decL] at h
  | (k, v) :: (.str _, k2) :: r, l, h => by simp [decL] at h
  | (k, v) :: (.list _, k2) :: r, l, h => by simp [decL] at h
  | (k, v) :: (.tuple _, k2) :: r, l, h => by simp [decL] at h
  | (k, v) :: (.dict _, k2) :: r, l, h => by simp [decL] at h
theorem decN_ok {kvs l : List (PyData × PyData)} (h : decN kvs = some l) : kvs = encN l := by
  unfold decN at h
  split at h
  · rw [decL_ok _ _ h]; rfl
  · cases h
inductive NdRel (K : PySem.W.Frag) (G : Rg) (H : Hp) : List (NestedKey × Addr × V) → List (PyData × PyData) → Prop
  | nil : NdRel K G H [] []
  | cons {r : NestedKey × Addr × V} {rs : List (NestedKey × Addr × V)} {k v : PyData} {l : List (PyData × PyData)} : nkD k = some r.1 → r.1.depth ≤ 8 → Dn K G H (.ref r.2.1) k → Dn K G H r.2.2 v → NdRel K G H rs l → NdRel K G H (r :: rs) ((k, v) :: l)
theorem ndRel_of0 {K : PySem.W.Frag} {G : Rg} {H : Hp} : ∀ (l : List (PyData × PyData)) (rs : List (NestedKey × Addr × V)) (kds : List PyData), kds.map nkD = rs.map (fun r => some r.1) → (∀ r ∈ rs, r.1.depth ≤ 8) → (l.flatMap fun z => [(z.1, z.2), (PyData.none, z.1)]).map (·.1) = kds.flatMap (fun d => [d, .none]) → DnA K G H (rs.flatMap fun r => [r.2.2, .ref r.2.1]) ((l.flatMap fun z => [(z.1, z.2), (PyData.none, z.1)]).map (·.2)) → NdRel K G H rs l
  | [], rs, kds, h1, h2, h3, hd => by
    cases rs with
    | nil => exact .nil
    | cons r rs => cases hd
  | z :: l, rs, kds, h1, h2, h3, hd => by
    cases rs with
    | nil => cases hd
    | cons r rs =>
      cases kds with
      | nil => cases h1
      | cons d kds =>
        have e1 := List.cons.inj h1
        simp only [List.flatMap_cons, List.cons_append, List.nil_append, List.map_cons, List.map_append] at h3 hd
        have e3 := List.cons.inj h3
        have e4 := List.cons.inj e3.2
        cases hd with
        | cons d1 hd =>
          cases hd with
          | cons d2 hd =>
            refine .cons ?_ (h2 r List.mem_cons_self) d2 d1 (ndRel_of0 l rs kds e1.2 (fun x hx => h2 x (List.mem_cons_of_mem _ hx)) e4.2 hd)
            rw [e3.1]; exact e1.1
theorem ndRel_of {K : PySem.W.Frag} {G : Rg} {H : Hp} {a : Addr} {o : HO} {vs : List V} {l : List (PyData × PyData)} (ho : DcO .n a o ((encN l).map (·.1)) vs) (hd : DnA K G H vs ((encN l).map (·.2))) : ∃ rs, o = NdO a rs ∧ NdRel K G H rs l := by
  obtain ⟨rs, kds, rfl, h1, h2, h3, rfl⟩ := ho
  refine ⟨rs, rfl, ?_⟩
  have h3 : (l.flatMap fun z => [(z.1, z.2), (PyData.none, z.1)]).map (·.1) = kds.flatMap fun d => [d, .none] := (List.cons.inj h3).2
  have hd : DnA K G H (rs.flatMap fun r => [r.2.2, .ref r.2.1]) ((l.flatMap fun z => [(z.1, z.2), (PyData.none, z.1)]).map (·.2)) := by
    cases hd with
    | cons _ h => exact h
  exact ndRel_of0 l rs kds h1 h2 h3 hd
theorem ndRel_to {K : PySem.W.Frag} {G : Rg} {H : Hp} {a : Addr} {rs : List (NestedKey × Addr × V)} {l : List (PyData × PyData)} (h : NdRel K G H rs l) : DcO .n a (NdO a rs) ((encN l).map (·.1)) (encV rs) ∧ DnA K G H (encV rs) ((encN l).map (·.2)) := by
  have key : (l.map (·.1)).map nkD = rs.map (fun r => some r.1) ∧ (∀ r ∈ rs, r.1.depth ≤ 8) ∧ (l.flatMap fun z => [(z.1, z.2), (PyData.none, z.1)]).map (·.1) = (l.map (·.1)).flatMap (fun d => [d, .none]) ∧ DnA K G H (rs.flatMap fun r => [r.2.2, .ref r.2.1]) ((l.flatMap fun z => [(z.1, z.2), (PyData.none, z.1)]).map (·.2)) := by
    induction h with
    | nil => exact ⟨rfl, fun _ h => (nomatch h), rfl, .nil⟩
    | @cons r rs k v l h1 h2 h3 h4 _ ih =>
      obtain ⟨i1, i2, i3, i4⟩ := ih
      refine ⟨?_, ?_, ?_, ?_⟩
      · simp only [List.map_cons]; rw [h1, i1]
      · intro x hx
        rcases List.mem_cons.mp hx with rfl | hx
        · exact h2
        · exact i2 x hx
      · simp only [List.flatMap_cons, List.map_cons, List.map_append, List.cons_append, List.nil_append, i3]
      · simp only [List.flatMap_cons, List.map_append, List.cons_append, List.nil_append]
        exact .cons h4 (.cons h3 i4)
  exact ⟨⟨rs, l.map (·.1), rfl, key.1, key.2.1, by show PyData.none :: _ = _; rw [key.2.2.1]; rfl, rfl⟩, .cons .non key.2.2.2⟩
theorem NdRel.mono {K : PySem.W.Frag} {G G' : Rg} {H H' : Hp} (g : RgLe G G') (t : TupLe H H') {rs : List (NestedKey × Addr × V)} {l : List (PyData × PyData)} (h : NdRel K G H rs l) : NdRel K G' H' rs l := by
  induction h with
  | nil => exact .nil
  | cons h1 h2 h3 h4 _ ih => exact .cons h1 h2 (h3.mono g t) (h4.mono g t) ih
theorem NdRel.keys {X : Cx} {K : PySem.W.Frag} {G : Rg} {H : Hp} {h : Heap} (ok : HOk X.prog X.w H h) {rs : List (NestedKey × Addr × V)} {l : List (PyData × PyData)} (n : NdRel K G H rs l) : NdK X h rs := by
  induction n with
  | nil => intro r hr; cases hr
  | cons h1 h2 h3 _ _ ih =>
    intro r hr
    rcases List.mem_cons.mp hr with rfl | hr
    · exact ⟨dn_nested ok h3 h1 rfl, h2⟩
    · exact ih r hr
theorem NdRel.len {K : PySem.W.Frag} {G : Rg} {H : Hp} {rs : List (NestedKey × Addr × V)} {l : List (PyData × PyData)} (n : NdRel K G H rs l) : rs.length = l.length := by
  induction n with
  | nil => rfl
  | cons _ _ _ _ _ ih => rw [List.length_cons, List.length_cons, ih]
def getN (l : List (PyData × PyData)) (k : PyData) : Option PyData := (l.find? fun z => decide (nkD z.1 = nkD k)).map (·.2)
def putN (l : List (PyData × PyData)) (k v : PyData) : List (PyData × PyData) := if l.any (fun z => decide (nkD z.1 = nkD k)) then l.map (fun z => if nkD z.1 = nkD k then (z.1, v) else z) else l ++ [(k, v)]
theorem NdRel.get {K : PySem.W.Frag} {G : Rg} {H : Hp} {k : PyData} {kk : NestedKey} (hk : nkD k = some kk) {rs : List (NestedKey × Addr × V)} {l : List (PyData × PyData)} (n : NdRel K G H rs l) : (ndGet rs kk = none ∧ getN l k = none) ∨ ∃ v d, ndGet rs kk = some v ∧ getN l k = some d ∧ Dn K G H v d := by
  induction n with
  | nil => exact .inl ⟨rfl, rfl⟩
  | @cons r rs k0 v0 l h1 h2 h3 h4 _ ih =>
    by_cases e : r.1 = kk
    · have e2 : nkD k0 = nkD k := by rw [h1, hk, e]
      exact .inr ⟨r.2.2, v0, by simp [ndGet, e], by simp [getN, e2], h4⟩
    · have e2 : ¬ nkD k0 = nkD k := by rw [h1, hk]; simpa using e
      have g1 : ndGet (r :: rs) kk = ndGet rs kk := by simp [ndGet, List.find?_cons, e]
      have g2 : getN ((k0, v0) :: l) k = getN l k := by simp [getN, List.find?_cons, e2]
      rw [g1, g2]; exact ih
theorem NdRel.any {K : PySem.W.Frag} {G : Rg} {H : Hp} {k : PyData} {kk : NestedKey} (hk : nkD k = some kk) {rs : List (NestedKey × Addr × V)} {l : List (PyData × PyData)} (n : NdRel K G H rs l) : rs.any (fun r => decide (r.1 = kk)) = l.any (fun z => decide (nkD z.1 = nkD k)) := by
  induction n with
  | nil => rfl
  | @cons r rs k0 v0 l h1 h2 h3 h4 _ ih =>
    rw [List.any_cons, List.any_cons, ih]
    congr 1
    rw [decide_eq_decide, h1, hk]
    simp
theorem NdRel.put1 {K : PySem.W.Frag} {G : Rg} {H : Hp} {k v : PyData} {kk : NestedKey} {y : V} (hk : nkD k = some kk) (hv : Dn K G H y v) {rs : List (NestedKey × Addr × V)} {l : List (PyData × PyData)} (n : NdRel K G H rs l) : NdRel K G H (rs.map (fun r => if r.1 = kk then (r.1, r.2.1, y) else r)) (l.map (fun z => if nkD z.1 = nkD k then (z.1, v) else z)) := by
  induction n with
  | nil => exact .nil
  | @cons r rs k0 v0 l h1 h2 h3 h4 _ ih =>
    rw [List.map_cons, List.map_cons]
    by_cases e : r.1 = kk
    · have e2 : nkD k0 = nkD k := by rw [h1, hk, e]
      rw [if_pos e, if_pos e2]
      exact .cons h1 h2 h3 hv ih
    · have e2 : ¬ nkD k0 = nkD k := by rw [h1, hk]; simpa using e
      rw [if_neg e, if_neg e2]
      exact .cons h1 h2 h3 h4 ih
theorem NdRel.put2 {K : PySem.W.Frag} {G : Rg} {H : Hp} {k v : PyData} {kk : NestedKey} {b : Addr} {y : V} (hk : nkD k = some kk) (hd : kk.depth ≤ 8) (hb : Dn K G H (.ref b) k) (hv : Dn K G H y v) {rs : List (NestedKey × Addr × V)} {l : List (PyData × PyData)} (n : NdRel K G H rs l) : NdRel K G H (rs ++ [(kk, b, y)]) (l ++ [(k, v)]) := by
  induction n with
  | nil => exact .cons hk hd hb hv .nil
  | cons h1 h2 h3 h4 _ ih => exact .cons h1 h2 h3 h4 ih
theorem NdRel.put {K : PySem.W.Frag} {G : Rg} {H : Hp} {k v : PyData} {kk : NestedKey} {b : Addr} {y : V} (hk : nkD k = some kk) (hd : kk.depth ≤ 8) (hb : Dn K G H (.ref b) k) (hv : Dn K G H y v) {rs : List (NestedKey × Addr × V)} {l : List (PyData × PyData)} (n : NdRel K G H rs l) : NdRel K G H (ndPut rs kk b y) (putN l k v) := by
  unfold ndPut putN
  rw [n.any hk]
  split
  · exact n.put1 hk hv
  · exact n.put2 hk hd hb hv
def nkOk (k : PyData) : Bool := match k with
  | .tuple _ => match nkD k with
    | some kk => decide (kk.depth ≤ 8)
    | none => false
  | _ => false
theorem nkOk_ok {k : PyData} (h : nkOk k = true) : (∃ xs, k = .tuple xs) ∧ ∃ kk, nkD k = some kk ∧ kk.depth ≤ 8 := by
  unfold nkOk at h
  split at h
  · rename_i xs
    split at h
    · rename_i kk e
      exact ⟨⟨xs, rfl⟩, kk, e, of_decide_eq_true h⟩
    · cases h
  · cases h
section
variable {X : Cx} {W : WX} {sc : Scope} {N : List Str} {a b c e : Expr} {pos : Pos} {f g : DF}
def ndA (Γ : List Sl) : AV → Option (Bool × List (PyData × PyData))
  | .d fr (.dict kvs) => (decN kvs).map fun l => (fr, l)
  | .s j => match Γ[j]? with
    | some (.own (.dic .n kvs)) => (decN kvs).map fun l => (true, l)
    | some (.io (.dic .n kvs)) => (decN kvs).map fun l => (true, l)
    | _ => none
  | _ => none
theorem ndA_frz {K : PySem.W.Frag} {G : Gh} {H : Hp} {v : V} {fr : Bool} {l : List (PyData × PyData)} (hv : Dn K (rg G fr) H v (.dict (encN l))) : ∃ p rs ob, v = .ref p ∧ rg G fr p (.frz ob (NdO p rs)) ∧ NdRel K (rg G fr) H rs l := by
  generalize hq : encN l = q at hv
  cases hv with
  | @dct p o t vs _ h1 h2 h3 =>
    subst hq
    cases t with
    | k =>
      obtain ⟨ks, _, h4, _⟩ := h2
      cases ks with
      | nil => cases h4
      | cons y s =>
        have h4 : PyData.none = keyD y.1 := (List.cons.inj h4).1
        cases hy : y.1 <;> rw [hy] at h4 <;> cases h4
    | t =>
      obtain ⟨ks, _, h4, _⟩ := h2
      cases ks with
      | nil => cases h4
      | cons y s =>
        have h4 := (List.cons.inj h4).1
        cases h4
    | n =>
      obtain ⟨rs, rfl, hr⟩ := ndRel_of h2 h3
      obtain ⟨ob, h1⟩ := h1
      exact ⟨p, rs, ob, rfl, h1, hr⟩
  | exc _ _ _ _ =>
    unfold encN at hq
    have := (List.cons.inj hq).1
    cases this
  | exc0 _ =>
    unfold encN at hq
    have := (List.cons.inj hq).1
    cases this
  | ins _ _ _ _ =>
    unfold encN at hq
    have := (List.cons.inj hq).1
    cases this
  | dcu _ _ _ =>
    unfold encN at hq
    have := (List.cons.inj hq).1
    cases this
theorem ndA_ok {Γ : List Sl} {x : AV} {z : Bool × List (PyData × PyData)} {G : Gh} {H : Hp} {σ : St} {v : V} (h : ndA Γ x = some z) (S : Sta X.K G H σ Γ) (hv : AVok X.K G H σ v x) : ∃ l rs, v = .ref l ∧ Rd H l (NdO l rs) ∧ NdRel X.K (rg G z.1) H rs z.2 := by
  unfold ndA at h
  split at h
  · rename_i fr kvs
    cases hd : decN kvs with
    | none => rw [hd] at h; cases h
    | some l =>
      rw [hd] at h; cases h
      have e := decN_ok hd
      subst e
      obtain ⟨p, rs, ob, rfl, h1, hr⟩ := ndA_frz hv
      exact ⟨p, rs, rfl, .inr ⟨ob, S.w.rgl fr _ _ h1⟩, hr⟩
  · rename_i j
    obtain ⟨A, T⟩ := S
    have hv : σ[j]? = some (some v) := hv
    split at h
    · rename_i kvs hj
      cases hd : decN kvs with
      | none => rw [hd] at h; cases h
      | some l =>
        rw [hd] at h; cases h
        have e := decN_ok hd
        subst e
        obtain ⟨u, h1, _, p, o, vs, rfl, _, h3, h4, h5⟩ := T.sl j _ hj
        rw [h1] at hv
        cases hv
        obtain ⟨rs, rfl, hr⟩ := ndRel_of h4 h5
        exact ⟨p, rs, rfl, .inl h3, hr⟩
    · rename_i kvs hj
      cases hd : decN kvs with
      | none => rw [hd] at h; cases h
      | some l =>
        rw [hd] at h; cases h
        have e := decN_ok hd
        subst e
        obtain ⟨u, h1, _, p, o, vs, rfl, _, h3, h4, h5⟩ := T.sl j _ hj
        rw [h1] at hv
        cases hv
        obtain ⟨rs, rfl, hr⟩ := ndRel_of h4 h5
        exact ⟨p, rs, rfl, .inl h3, hr⟩
    · cases h
  · cases h
def NGet (K : PySem.W.Frag) (H : Hp) (x y : V) (o : Option V) : Prop := ∃ (G G' : Rg) (l : Addr) (rs : List (NestedKey × Addr × V)) (ls : List (PyData × PyData)) (b : Addr) (k : PyData) (kk : NestedKey), x = .ref l ∧ Rd H l (NdO l rs) ∧ NdRel K G H rs ls ∧ y = .ref b ∧ Dn K G' H (.ref b) k ∧ nkD k = some kk ∧ kk.depth ≤ 8 ∧ o = ndGet rs kk
theorem nget_typeIs {pins : List (Addr × Obj)} {σ : St} {H : Hp} {s : Shared} {x y : V} {v : Value} {o : Option V} (I : Inv X pins σ H s) (g : NGet X.K H x y o) (r : RelV x v) : s.TypeIs v "dict" := by
  obtain ⟨G, G', l, rs, ls, b, k, kk, rfl, hr, hn, rfl, hk, e1, e2, rfl⟩ := g
  cases r
  obtain ⟨_, _, dd⟩ := nd_rd (nd_of_ok (hr.ok I.hok)) (hn.keys (X := X) I.hok)
  exact dd.typeIs
theorem nget_key {pins : List (Addr × Obj)} {σ : St} {H : Hp} {s : Shared} {G' : Rg} {b : Addr} {k : PyData} {kk : NestedKey} (I : Inv X pins σ H s) (hk : Dn X.K G' H (.ref b) k) (e1 : nkD k = some kk) (e2 : kk.depth ≤ 8) : (nestedKind X.prog X.w).is s.heap kk b := ⟨dn_nested I.hok hk e1 rfl, e2⟩
def rIxN (K : PySem.W.Frag) : R2 := fun x y H Q => ∃ v, NGet K H x y (some v) ∧ Q v H
theorem ix_nest (hu : X.A.units + 9 < cLine) : IxR X (rIxN X.K) := by
  intro value slice pins s σ H x y v u Q I rx ry h hs
  obtain ⟨w, g, q⟩ := h
  have ht := nget_typeIs I g rx
  obtain ⟨G, G', l, rs, ls, b, k, kk, rfl, hr, hn, rfl, hk, e1, e2, e3⟩ := g
  cases rx
  cases ry
  exact PyProof.Rows.tail_any ht PySem.F.slot_dict_getitem.lookup (n_getItem hu I hr (hn.keys (X := X) I.hok) (nget_key I hk e1 e2) e3.symm fun w' s' I' rw' => ⟨w, H, I', rw', q⟩) hs
theorem nget_of {Γ : List Sl} {x : AV} {z : Bool × List (PyData × PyData)} {G : Gh} {H : Hp} {σ : St} {v y : V} {G2 : Rg} {k : PyData} (hz : ndA Γ x = some z) (S : Sta X.K G H σ Γ) (hu : AVok X.K G H σ v x) (hk : nkOk k = true) (hy : Dn X.K G2 H y k) :
    (NGet X.K H v y none ∧ getN z.2 k = none) ∨ ∃ w d, NGet X.K H v y (some w) ∧ getN z.2 k = some d ∧ Dn X.K (rg G z.1) H w d := by
  obtain ⟨l, rs, rfl, h1, h2⟩ := ndA_ok hz S hu
  obtain ⟨⟨xs, rfl⟩, kk, e1, e2⟩ := nkOk_ok hk
  obtain ⟨b, ws, rfl, _, _⟩ := dn_tupleH hy
  rcases h2.get e1 with ⟨g1, g2⟩ | ⟨w, d, g1, g2, g3⟩
  · exact .inl ⟨⟨_, _, l, rs, z.2, b, _, kk, rfl, h1, h2, rfl, hy, e1, e2, g1.symm⟩, g2⟩
  · exact .inr ⟨w, d, ⟨_, _, l, rs, z.2, b, _, kk, rfl, h1, h2, rfl, hy, e1, e2, g1.symm⟩, g2, g3⟩
def ixN' (Γ : List Sl) (x y : AV) : R AV := match ndA Γ x with
  | some z => match y with
    | .d _ kk => (R.req (nkOk kk)).bind fun _ => (R.ofO (getN z.2 kk)).bind fun d => .val (.d z.1 d)
    | _ => .bad
  | none => .bad
def dIxN (f g : DF) : DF := fun Γ => (f Γ).bind fun x => (g x.2).bind fun y => (ixN' y.2 x.1 y.1).bind fun z => .val (z, y.2)
theorem ce_ixN (C : Cf0 X W sc N) (ha : CE X W a f) (hb : CE X W b g) (hs : PlainIx b := by exact fun _ _ => rfl) : CE X W (.Subscript a b pos) (dIxN f g) := fun Γ =>
  pe_imp (pe_ix (ix_nest (by have := u65 C; omega)) (ha Γ) (pe_any fun x : AV × List Sl => hb x.2) hs) fun σ H Q h => bin_rd (X := X) (W := W) (ava := Prod.fst) (Γa := Prod.snd) (avb := fun _ (y : AV × List Sl) => y.1) (Γb := fun _ (y : AV × List Sl) => y.2) (avk := Prod.fst) (Γk := Prod.snd) (k := fun (x : AV × List Sl) (y : AV × List Sl) => (ixN' y.2 x.1 y.1).bind fun z => .val (z, y.2)) (fun x y G H σ u v Q S hu hv p => by
    obtain ⟨x, Γ1⟩ := x
    obtain ⟨y, Γ2⟩ := y
    simp only at hu hv S p
    unfold ixN' at p
    split at p
    · rename_i z hz
      split at p
      · rename_i fr kk
        have hk : nkOk kk = true := by
          cases hc : nkOk kk with
          | true => rfl
          | false => rw [hc] at p; exact p.elim
        rw [hk] at p
        have p : Pst X W G H σ (((R.ofO (getN z.2 kk)).bind fun d => R.val (AV.d z.1 d)).bind fun z => .val (z, Γ2)) (fun z G' H' => ∀ (w : V), Sta X.K G' H' σ z.snd → AVok X.K G' H' σ w z.fst → Q w H') := p
        obtain ⟨d, hd⟩ : ∃ d, getN z.2 kk = some d := by
          cases hc : getN z.2 kk with
          | none => rw [hc] at p; exact p.elim
          | some d => exact ⟨d, rfl⟩
        rw [hd] at p
        rcases nget_of hz S hu hk hv with ⟨_, g2⟩ | ⟨w, d', g1, g2, g3⟩
        · rw [hd] at g2; cases g2
        · rw [hd] at g2; cases g2
          exact ⟨w, g1, p G H (Ext.rf S.w) w S g3⟩
      · exact p.elim
    · exact p.elim) h
def rInN (K : PySem.W.Frag) (neg : Bool) : R2 := fun y x H Q => ∃ o, NGet K H x y o ∧ Q (.bl (o.isSome != neg)) H
theorem op_notInNest (hu : X.A.units + 9 < cLine) : OpR X (compareOp .NotIn) (rInN X.K true) := by
  intro pins s σ H x y v u Q I rx ry h
  obtain ⟨o, g, q⟩ := h
  obtain ⟨G, G', l, rs, ls, b, k, kk, rfl, hr, hn, rfl, hk, e1, e2, rfl⟩ := g
  cases rx
  cases ry
  exact n_notIn hu I hr (hn.keys (X := X) I.hok) (nget_key I hk e1 e2) fun s' I' => ⟨.bl _, H, I', rfl, by rw [Bool.bne_true] at q; exact q⟩
def kInN (neg : Bool) (Γ : List Sl) (x y : AV) : R Bool := match ndA Γ y with
  | some z => match rdD Γ x with
    | some kk => gq (nkOk kk) ((getN z.2 kk).isSome != neg)
    | none => .bad
  | none => .bad
theorem kInN_cases {neg : Bool} {G : Gh} {H : Hp} {σ : St} {Γ : List Sl} {x y : AV} {u v : V} (S : Sta X.K G H σ Γ) (hu : AVok X.K G H σ u x) (hv : AVok X.K G H σ v y) : kInN neg Γ x y = .bad ∨ ∃ z, kInN neg Γ x y = .val z ∧ ∃ o, NGet X.K H v u o ∧ z = (o.isSome != neg) := by
  unfold kInN
  split
  · rename_i z hz
    split
    · rename_i kk hd
      rcases gq_cases (nkOk kk) ((getN z.2 kk).isSome != neg) with e | ⟨hk, e⟩
      · exact .inl e
      · refine .inr ⟨_, e, ?_⟩
        rcases nget_of hz S hv hk (rdD_av hd S hu) with ⟨g1, g2⟩ | ⟨w, d, g1, g2, _⟩
        · exact ⟨none, g1, by rw [g2]; rfl⟩
        · exact ⟨some w, g1, by rw [g2]; rfl⟩
    · exact .inl rfl
  · exact .inl rfl
theorem ce_notinN (C : Cf0 X W sc N) (ha : CE X W a f) (hb : CE X W b g) (hm : behindInMarks .NotIn b = false := by rfl) : CE X W (.Compare a [.NotIn] [b] pos) (dCmp (kInN true) f g) :=
  ce_cmp2 (fun x y Γ2 => boolR (kInN true Γ2 x y) Γ2) (op_notInNest (by have := u65 C; omega)) hm ha hb fun x y Γ2 G H σ u v Q S hu hv p => by
    rcases kInN_cases S hu hv with e | ⟨z, e, o, h1, rfl⟩
    · rw [e] at p; exact p.elim
    · rw [e] at p; exact ⟨o, h1, Pk.v p S (.bl _)⟩
def rSetN (K : PySem.W.Frag) : V → V → V → Hp → (Hp → Prop) → Prop := fun o i v H Q => ∃ (G G' : Rg) (l : Addr) (rs : List (NestedKey × Addr × V)) (ls : List (PyData × PyData)) (b : Addr) (k : PyData) (kk : NestedKey), o = .ref l ∧ H l = some (NdO l rs) ∧ NdRel K G H rs ls ∧ i = .ref b ∧ Dn K G' H (.ref b) k ∧ nkD k = some kk ∧ kk.depth ≤ 8 ∧ ls.length < sizeLine ∧ Q (upd H l (NdO l (ndPut rs kk b v)))
theorem set_nest (hu : X.A.units + 9 < cLine) : PSet X (rSetN X.K) := by
  intro pins s σ H o i v ov iv u Q I ro ri rv h
  obtain ⟨G, G', l, rs, ls, b, k, kk, rfl, hr, hn, rfl, hk, e1, e2, hl, q⟩ := h
  cases ro
  cases ri
  exact n_setItem hu I hr (hn.keys (X := X) I.hok) (nget_key I hk e1 e2) (nkD_noT _ _ e1) (by rw [hn.len]; exact hl) rv fun s' I' => ⟨_, I', q⟩
def putNC : Cl → PyData → PyData → Option Cl
  | .dic .n kvs, k, v => match decN kvs with
    | some l => if nkOk k && decide (l.length < sizeLine) then some (.dic .n (encN (putN l k v))) else none
    | none => none
  | _, _, _ => none
theorem putNC_cases {c c' : Cl} {k v : PyData} (h : putNC c k v = some c') : ∃ l, c = .dic .n (encN l) ∧ nkOk k = true ∧ l.length < sizeLine ∧ c' = .dic .n (encN (putN l k v)) := by
  unfold putNC at h
  split at h
  · rename_i kvs
    split at h
    · rename_i l hd
      split at h
      · rename_i hc
        cases h
        rw [Bool.and_eq_true] at hc
        rw [decN_ok hd]
        exact ⟨l, rfl, hc.1, of_decide_eq_true hc.2, rfl⟩
      · cases h
    · cases h
  · cases h
def bPutN (i : Nat) (fe fi : DF) : DS := fun Γ => (dFrz fe Γ).bind fun z => (R.ofO (cellC z.2 i)).bind fun _ => (fi z.2).bind fun y => (R.ofO (cellC y.2 i)).bind fun c => match z.1, y.1 with
  | .d true v, .d true kk => (R.ofO (putNC c.2 kk v)).bind fun c' => .val (.nx, y.2.set i (mkS c.1 c'))
  | _, _ => .bad
theorem c1_putN (C : Cf0 X W sc N) (i : Nat) {x : Str} {p' tpos : Pos} {fe fi : DF} (hN : N[i]? = some x) (hv : visB sc x = true) (he : CE X W e fe) (hi : CE X W b fi) (hd : (x == ("__debug__" : Str)) = false := by decide +kernel) (hcd : (x == ("__classdict__" : Str)) = false := by decide +kernel)
    (has : ∀ v, assign (.Subscript (.Name x p') b tpos) X.env v = (do
      let ov ← holding [v] (eval (.Name x p') X.env)
      let iv ← holding [v, ov] (eval b X.env)
      standAt tpos
      holding [v, ov, iv] (setItem ov iv v)
      release [v, ov, iv] []) := by intro _; rfl)
    (hs : swapsWithSole [.Subscript (.Name x p') b tpos] e pos.line X.env = pure false := by rfl) (hw : swappedStores [.Subscript (.Name x p') b tpos] e X.env = pure none := by rfl) (h1 : (assignEach [.Subscript (.Name x p') b tpos] X.env).map (·.2) = [assign (.Subscript (.Name x p') b tpos) X.env] := by rfl) :
    C1 X W (.Assign [.Subscript (.Name x p') b tpos] e pos) (bPutN i fe fi) := fun Γ =>
  ps_imp (ps_asg (ce_frz he Γ) (pg_sub (pe_any fun z : {z : AV × List Sl // (cellC z.2 i).isSome} => evp_cell (W := W) (c := ((cellC z.1.2 i).get z.2).2) C (cellC_ok (Option.some_get _).symm) hN hv hd hcd) (pe_any fun z : AV × List Sl => hi z.2) (set_nest (by have := u65 C; omega)) has) hs hw h1) fun D σ H ⟨G, S, p⟩ => ⟨G, S, (Pst.bind p).imp fun z G1 H1 e1 p1 v S1 a1 => by
    obtain ⟨c0, hc0, p1⟩ := Pst.ofO p1
    refine ⟨⟨z, by rw [hc0]; rfl⟩, G1, S1, fun G2 H2 e2 u S2 hu => ⟨z, G2, S2, (Pst.bind (Pst.ext p1 e2)).imp fun y G3 H3 e3 p3 w S3 hw3 => ?_⟩⟩
    obtain ⟨c, hc, p3⟩ := Pst.ofO p3
    have hu : σ[i]? = some (some u) := hu
    obtain ⟨u', fp, g1, g2, g3⟩ := S3.chg1 i c.1 (cellC_ok hc)
    rw [hu] at g1
    cases g1
    have a1 := a1.ext (e2.tr e3)
    split at p3
    · rename_i vd kk hz hy
      rw [hz] at a1
      rw [hy] at hw3
      obtain ⟨c', hc', p3⟩ := Pst.ofO p3
      have a1 : Dn X.K (rg G3 true) H3 v vd := a1
      have hw3 : Dn X.K (rg G3 true) H3 w kk := hw3
      have fin : ∀ H4, Sta X.K G3 H4 σ (y.2.set i (mkS c.1 c')) ∧ Ext G3 H3 G3 H4 → D.nx σ H4 := fun H4 ⟨S4, e4⟩ => p3 G3 H4 e4 σ S4
      obtain ⟨io, cc⟩ := c
      have g2 : cc.ok X.K (rg G3 true) H3 u fp := g2
      obtain ⟨l, e1, hk, hl, rfl⟩ := putNC_cases hc'
      have e1 : cc = .dic .n (encN l) := e1
      subst e1
      obtain ⟨q, o, vs, rfl, hfp, hq, ho, hd'⟩ := g2
      obtain ⟨rs, rfl, hr⟩ := ndRel_of ho hd'
      obtain ⟨⟨xs, rfl⟩, kk', k1, k2⟩ := nkOk_ok hk
      obtain ⟨bb, ws, rfl, _, _⟩ := dn_tupleH hw3
      have tl : TupLe H3 (upd H3 q (NdO q (ndPut rs kk' bb v))) := tup_mut hq (fun _ h => by cases h)
      have hr' := ((hr.put k1 k2 hw3 a1).mono (fun _ _ z => z) tl)
      obtain ⟨n1, n2⟩ := ndRel_to (a := q) hr'
      exact ⟨_, _, q, rs, l, bb, _, kk', rfl, hq, hr, rfl, hw3, k1, k2, hl, fin _ (g3 q _ _ _ hfp hq (fun _ h => by cases h) (fun _ _ h => by cases h) ⟨q, _, _, rfl, rfl, upd_same, n1, n2⟩)⟩
    · exact p3.elim⟩
end
end PD
set_option Elab.async false
set_option linter.all false
set_option maxRecDepth 100000
set_option maxHeartbeats 4000000
set_option autoImplicit false
namespace PD
open PySem PySem.Spec L2
open PyProof.Rows hiding St
theorem Inv_frzN {X : Cx} {pins : List (Addr × Obj)} {σ : St} {H : Hp} {s : Shared} {d : Addr} {o : Obj} {rs : List (NestedKey × Addr × V)} (I : Inv X pins σ H s) (h : H d = some (.frz o (NdO d rs))) :
    (d == sysModules) = false ∧ s.heap.get? d = some o ∧ o.ExactDict ∧ ∃ (es : Array DictEntry) (ep : Nat), o.data = .dict es ep ∧ es.size = rs.length ∧
      ∀ (i : Nat) (r : NestedKey × Addr × V), rs[i]? = some r → ∃ en : DictEntry, es[i]? = some en ∧ en.key = .ref r.2.1 := by
  obtain ⟨hd, ⟨n1, n2, n3, w', xs, o', es, ep, pr, ho, hx, hdt, he, hn⟩, _⟩ := I.hok d _ h
  rw [hd] at ho
  cases ho
  have l1 : es.size = xs.length := by
    have := congrArg List.length he
    simpa using this
  have l2 : rs.length = xs.length := Paired.length pr
  refine ⟨n2, hd, hx, es, ep, hdt, by omega, fun i r e => ?_⟩
  obtain ⟨b, hb, e1, e2, _⟩ := paired_get pr e
  have q : es.toList[i]? = some (⟨b.1.hash w', .ref b.2.1, b.2.2⟩ : DictEntry) := by rw [he, List.getElem?_map, hb]; rfl
  have q2 : es[i]? = some (⟨b.1.hash w', .ref b.2.1, b.2.2⟩ : DictEntry) := by simpa using q
  exact ⟨_, q2, by rw [e2]⟩
def ItkN (d : Addr) (o : Obj) (rs : List (NestedKey × Addr × V)) : It :=
  ⟨fun i H => H d = some (.frz o (NdO d rs)) ∧ i < rs.length, fun i H x H' => H' = H ∧ ∃ r, rs[i]? = some r ∧ x = .ref r.2.1, fun i H => H d = some (.frz o (NdO d rs)) ∧ rs.length ≤ i⟩
theorem turn_keysN {P : Program} {w : World} {K : PySem.W.Frag} {tg : Expr} {d : Addr} {o : Obj} {es : Array DictEntry} {ep : Nat} {rs : List (NestedKey × Addr × V)} (it : Addr) (hod : o.data = .dict es ep) : Turn P w K tg (ItkN d o rs) [it] it (fun i h => h.IsKeyIter it d i rs.length ep) where
  mem := by simp
  obj := fun i h st b hb => by
    have e : b = it := by simpa using hb
    subst e
    obtain ⟨oi, e, c, dd⟩ := st
    exact ⟨oi, e, fun v z => by rw [dd] at z; cases z⟩
  keep := fun i h h' st k => st.at fun oi e => k it (by simp) oi e
  item := by
    intro X hP hw hK hc i pins s σ H E I hf st hg
    subst hP hw hK
    obtain ⟨hd, hi⟩ := hg
    obtain ⟨f0, f1, f2, f3, f4, f5⟩ := hf it (by simp)
    obtain ⟨hs, hgd, hx, es', ep', hdt, hsz, ent⟩ := Inv_frzN I hd
    obtain ⟨rfl, rfl⟩ := dict_ep hod hdt
    obtain ⟨r, hr⟩ : ∃ r, rs[i]? = some r := ⟨rs[i], List.getElem?_eq_getElem hi⟩
    obtain ⟨en, hen, hkey⟩ := ent i r hr
    refine next_key_item st hgd hdt hsz hen fun h' st' sb => ?_
    have I1 : Inv X pins σ H { s with heap := h' } := I.turned (t' := s.toks) (fun b ob hb e => (sb.2 b hb).trans e) f0 f1 f3 f4 f5
    obtain ⟨oi, e, c, dd⟩ := id st'
    exact ⟨en.key, rfl, go_of (s := { s with heap := h' }) e c dd (by decide) ⟨.ref r.2.1, H, I1, hkey, ⟨rfl, r, hr, rfl⟩, st', fun b hb => (hf b hb).1⟩⟩
  done := by
    intro X hP hw hK hc i pins s σ H E I hf st hg
    subst hP hw hK
    obtain ⟨hd, hi⟩ := hg
    obtain ⟨f0, f1, f2, f3, f4, f5⟩ := hf it (by simp)
    obtain ⟨hs, hgd, hx, es', ep', hdt, hsz, ent⟩ := Inv_frzN I hd
    obtain ⟨rfl, rfl⟩ := dict_ep hod hdt
    exact next_key_end (I.ok.hd hc) st hgd hdt hsz hi fun h' eb => ⟨rfl, I.turned (t' := s.toks) (fun b ob hb e => eb b ob hb e) f0 f1 f3 f4 f5⟩
  self := fun A i s Q E st h => by
    refine wpAny_pyIter_slot st.typeIs F.slot_dict_keyiterator_iter (wpAny_call_entry F.slot_dict_keyiterator_iter st.typeIs F.entry_dict_keyiterator_iter ?_ (F.args_dict_keyiterator_iter_1 _))
    show wpAny _ _ (ret (.ref it)) _ _ s
    exact wpAny_pure ⟨_, rfl, "dict_keyiterator", _, st.typeIs, F.slot_dict_keyiterator_next.lookup, h⟩
def iKeysN (td : TE) : TI := fun σ H R => td σ H fun x H1 => ∃ d o rs, x = .ref d ∧ H1 d = some (.frz o (NdO d rs)) ∧ R (ItkN d o rs) H1
theorem pi_keysN {X : Cx} {tg e : Expr} {td : TE} (he : PE X e td) : PI X tg e (iKeysN td) := by
  refine ⟨fun pins s σ H R I h => ?_⟩
  refine thn (he.run pins s σ H _ I h) fun u s1 ⟨x, H1, I1, rx, d, o, rs, ex, hd, q⟩ => ?_
  subst ex
  obtain rfl : u = Value.ref d := rx
  obtain ⟨hs, hgd, hx, es, ep, hdt, hsz, ent⟩ := Inv_frzN I1 hd
  refine iter_keys hs hgd hx hdt (pi_one (tk := s1.toks) I1 _ (turn_keysN _ hdt) ⟨_, Heap.get?_push_size _ rfl, rfl, ?_⟩ q)
  rw [hsz] <;> rfl
theorem NdRel.at {K : PySem.W.Frag} {G : Rg} {H : Hp} {rs : List (NestedKey × Addr × V)} {l : List (PyData × PyData)} (n : NdRel K G H rs l) : ∀ {i : Nat} {r : NestedKey × Addr × V}, rs[i]? = some r → ∃ z, l[i]? = some z ∧ Dn K G H (.ref r.2.1) z.1 := by
  induction n with
  | nil => intro i r h; simp at h
  | @cons r0 rs k v l h1 h2 h3 h4 _ ih =>
    intro i r h
    cases i with
    | zero =>
      have : r0 = r := by simpa using h
      subst this
      exact ⟨(k, v), rfl, h3⟩
    | succ j => exact ih (by simpa using h)
section
variable {X : Cx} {W : WX} {sc : Scope} {N : List Str} {e tg : Expr} {f : DF}
theorem itd_keysN {K : PySem.W.Frag} {G : Gh} {H : Hp} {a : Addr} {o : Obj} {rs : List (NestedKey × Addr × V)} {l : List (PyData × PyData)} {fr : Bool} (h : rg G fr a (.frz o (NdO a rs))) (n : NdRel K (rg G fr) H rs l) : ItD K G H (ItkN a o rs) (l.map (·.1)) fr := by
  have sq : ∀ G2 H2, Le G H G2 H2 → H2 a = some (.frz o (NdO a rs)) := fun G2 H2 e => e.w.rgl fr _ _ (e.rgl fr _ _ h)
  have hl := n.len
  refine ⟨fun i G2 H2 hi e => ⟨sq G2 H2 e, by simpa [hl] using hi⟩, fun i G2 H2 σ Γ v H3 hi e S y => ?_, fun G2 H2 e => ⟨sq G2 H2 e, by simp [hl]⟩⟩
  obtain ⟨rfl, r, hr, rfl⟩ := y
  obtain ⟨z, hz, hd⟩ := n.at hr
  exact ⟨G2, z.1, by rw [List.getElem?_map, hz]; rfl, Ext.rf S.w, S, hd.mono (e.rgl fr) e.t⟩
def keyNA : AV → Option (List PyData × Bool)
  | .d fr (.dict kvs) => (decN kvs).map fun l => (l.map (·.1), fr)
  | _ => none
def iKeyN (f : DF) : DI := fun Γ => (f Γ).bind fun z => (R.ofO (keyNA z.1)).bind fun y => .val (y, z.2)
theorem ci_keyN (h : CE X W e f) : CI X W tg e (iKeyN f) := fun Γ => by
  have h := h Γ
  unfold iKeyN
  cases hf : f Γ with
  | bad => exact pi_no fun σ H Q ⟨G, S, q⟩ => q
  | exc x =>
    rw [hf] at h
    exact pi_imp (pi_keysN h) fun σ H Q ⟨G, S, q⟩ => ⟨G, S, q⟩
  | val z =>
    rw [hf] at h
    obtain ⟨y, Γ1⟩ := z
    cases hy : keyNA y with
    | none =>
      refine pi_no fun σ H Q ⟨G, S, q⟩ => ?_
      have q : Pst X W G H σ ((R.ofO (keyNA y)).bind fun y => R.val (y, Γ1)) (fun r G' H' => ∀ J, Sta X.K G' H' σ r.2 → ItD X.K G' H' J r.1.1 r.1.2 → Q J H') := q
      rw [hy] at q
      exact q
    | some w =>
      have key : ∀ {σ H Q}, rdIU X W Γ ((R.val (y, Γ1)).bind fun z => (R.ofO (keyNA z.1)).bind fun y => .val (y, z.2)) σ H Q → ∃ G, Sta X.K G H σ Γ ∧ ∀ G' H', Ext G H G' H' → ∀ J, Sta X.K G' H' σ Γ1 → ItD X.K G' H' J w.1 w.2 → Q J H' := fun {σ H Q} ⟨G, S, q⟩ => by
        have q : Pst X W G H σ ((R.ofO (keyNA y)).bind fun y => R.val (y, Γ1)) (fun r G' H' => ∀ J, Sta X.K G' H' σ r.2 → ItD X.K G' H' J r.1.1 r.1.2 → Q J H') := q
        rw [hy] at q
        exact ⟨G, S, q⟩
      unfold keyNA at hy
      split at hy
      · rename_i fr kvs
        cases hd : decN kvs with
        | none => rw [hd] at hy; cases hy
        | some l =>
          rw [hd] at hy; cases hy
          have e := decN_ok hd
          subst e
          refine pi_imp (pi_keysN h) fun σ H Q z => ?_
          obtain ⟨G, S, q⟩ := key z
          refine ⟨G, S, fun G' H' e' v S' a => ?_⟩
          obtain ⟨p, rs, ob, rfl, h1, h2⟩ := ndA_frz (fr := fr) a
          exact ⟨p, ob, rs, rfl, S'.w.rgl _ _ _ h1, q G' H' e' _ S' (itd_keysN h1 h2)⟩
      · cases hy
end
end PD
set_option Elab.async false
set_option linter.all false
set_option maxRecDepth 100000
set_option maxHeartbeats 4000000
set_option autoImplicit false
namespace PD
open PySem PySem.Spec L2 Srt SrtO
open PySem.W (alike AllAlike Sortable dataLe EachIs)
open PyProof.Rows hiding St
def neTup : PyData → Bool
  | .tuple (_ :: _) => true
  | _ => false
def noTup : PyData → Bool
  | .tuple _ => false
  | .none => false
  | _ => true
def sortOk (ds : List PyData) : Bool := (ds.all fun d => ds.all fun d' => alike d d') && (ds.all neTup || ds.all noTup) && (ds.all fun d => d.canLay0 && decide (d.depth ≤ 60)) && decide (ds.length ≤ sizeLine)
def sortDl (ds : List PyData) : List PyData := ds.mergeSort (dataLe false (fun d : PyData => d))
abbrev PrV : PyData × V → PyData := Prod.fst
theorem sortOk_ok {ds : List PyData} (h : sortOk ds = true) : AllAlike ds ∧ Sortable ds ∧ (∀ d ∈ ds, d.canLay0 = true ∧ d.depth ≤ 60) ∧ ds.length ≤ sizeLine := by
  unfold sortOk at h
  simp only [Bool.and_eq_true, Bool.or_eq_true, List.all_eq_true, decide_eq_true_eq] at h
  obtain ⟨⟨⟨h1, h2⟩, h3⟩, h4⟩ := h
  refine ⟨fun d hd d' hd' => h1 d hd d' hd', ?_, h3, h4⟩
  rcases h2 with h2 | h2
  · refine .inl fun d hd => ?_
    have := h2 d hd
    cases d <;> simp [neTup] at this
    rename_i xs
    cases xs with
    | nil => simp [neTup] at this
    | cons x r => exact ⟨x, r, rfl⟩
  · refine .inr fun d hd => ?_
    have := h2 d hd
    cases d <;> simp [noTup] at this <;> exact ⟨by simp, by simp⟩
section
variable {X : Cx} {pins : List (Addr × Obj)} {σ : St} {H : Hp} {s : Shared}
theorem each_zip {R : Value → PyData × V → Prop} : ∀ {xs : List V} {ds : List PyData} {its : List Value}, Vals xs its → xs.length = ds.length → (∀ x d v, (d, x) ∈ ds.zip xs → RelV x v → R v (d, x)) → EachIs R its (ds.zip xs)
  | _, [], _, .nil, _, _ => .nil
  | _, d :: ds, _, .nil, h, _ => by simp at h
  | _, [], _, .cons _ _, h, _ => by simp at h
  | x :: xs, d :: ds, v :: its, .cons r t, h, k => .cons (k x d v List.mem_cons_self r) (each_zip t (by simpa using h) fun x' d' v' hm r' => k x' d' v' (List.mem_cons_of_mem _ hm) r')
theorem vals_each : ∀ {out : List Value} {bs : List (PyData × V)}, EachIs (fun v (b : PyData × V) => RelV b.2 v) out bs → Vals (bs.map Prod.snd) out
  | _, _, .nil => .nil
  | _, _, .cons h t => .cons h (vals_each t)
theorem zip_fstD : ∀ {ds : List PyData} {xs : List V}, xs.length = ds.length → (ds.zip xs).map Prod.fst = ds
  | [], _, _ => by simp
  | d :: ds, [], h => by simp at h
  | d :: ds, x :: xs, h => by simp only [List.zip_cons_cons, List.map_cons]; rw [zip_fstD (by simpa using h)]
theorem sort_zip {ds : List PyData} {xs : List V} (h : xs.length = ds.length) : ((ds.zip xs).mergeSort (dataLe false PrV)).map Prod.fst = sortDl ds := by
  unfold sortDl
  have e := List.map_mergeSort (r := dataLe false PrV) (s := dataLe false (fun d : PyData => d)) (f := Prod.fst) (l := ds.zip xs) (fun a _ b _ => rfl)
  rw [e, zip_fstD h]
theorem dna_zip {K : PySem.W.Frag} {G : Rg} {H : Hp} : ∀ {xs : List V} {ds : List PyData}, DnA K G H xs ds → ∀ p ∈ ds.zip xs, Dn K G H p.2 p.1
  | _, _, .nil, p, h => by simp at h
  | _, _, .cons a t, p, h => by
    rw [List.zip_cons_cons] at h
    rcases List.mem_cons.mp h with rfl | h
    · exact a
    · exact dna_zip t p h
theorem dna_of {K : PySem.W.Frag} {G : Rg} {H : Hp} : ∀ {bs : List (PyData × V)}, (∀ p ∈ bs, Dn K G H p.2 p.1) → DnA K G H (bs.map Prod.snd) (bs.map Prod.fst)
  | [], _ => .nil
  | b :: bs, h => .cons (h b List.mem_cons_self) (dna_of fun p hp => h p (List.mem_cons_of_mem _ hp))
theorem dna_sort {K : PySem.W.Frag} {G : Rg} {H : Hp} {xs : List V} {ds : List PyData} (h : DnA K G H xs ds) : DnA K G H (((ds.zip xs).mergeSort (dataLe false PrV)).map Prod.snd) (sortDl ds) := by
  rw [← sort_zip h.length]
  exact dna_of fun p hp => dna_zip h p ((List.mergeSort_perm _ _).mem_iff.mp hp)
mutual
theorem reads_here {h : Heap} : ∀ {v : Value} {d : PyData} {as : List Addr}, Reads h v d as → ∀ a ∈ as, a < h.objs.size
  | _, _, _, .none, a, ha => nomatch ha
  | _, _, _, .bool _, a, ha => nomatch ha
  | _, _, _, .int _ _, a, ha => nomatch ha
  | _, _, _, .str _ _, a, ha => nomatch ha
  | _, _, _, .list h1 _ _ r, a, ha => by
    rcases List.mem_cons.mp ha with rfl | ha
    · exact Heap.lt_size h1
    · exact readsAll_here r a ha
  | _, _, _, .tuple _ _ _ r, a, ha => readsAll_here r a ha
  | _, _, _, .dict h1 _ _ r r2, a, ha => by
    rcases List.mem_append.mp ha with ha | ha
    · rcases List.mem_cons.mp ha with rfl | ha
      · exact Heap.lt_size h1
      · exact readsAll_here r a ha
    · exact readsAll_here r2 a ha
theorem readsAll_here {h : Heap} : ∀ {vs : List Value} {ds : List PyData} {as : List Addr}, ReadsAll h vs ds as → ∀ a ∈ as, a < h.objs.size
  | _, _, _, .nil, a, ha => nomatch ha
  | _, _, _, .cons r t, a, ha => (List.mem_append.mp ha).elim (reads_here r a) (readsAll_here t a)
end
def rSortedD (K : PySem.W.Frag) : List V → Hp → VK → Prop := fun vs H Q => ∃ (a : Addr) (xs : List V) (ds : List PyData), vs = [V.ref a] ∧ (SqL K H a xs ∨ ∃ o rs, H a = some (.frz o (NdO a rs)) ∧ xs = rs.map fun r => .ref r.2.1) ∧ DnA K (RgH H) H xs ds ∧ sortOk ds = true ∧
  ∀ p : Addr, H p = none → Q (.ref p) (upd H p (.lst (((ds.zip xs).mergeSort (dataLe false PrV)).map Prod.snd)))
theorem frzN_all {K : PySem.W.Frag} {rs : List (NestedKey × Addr × V)} {es : Array DictEntry} (hsz : es.size = rs.length) (ent : ∀ (i : Nat) (r : NestedKey × Addr × V), rs[i]? = some r → ∃ en : DictEntry, es[i]? = some en ∧ en.key = .ref r.2.1) {acc : Array Value} (hacc : PySem.ItemsOf (fun i v => ∃ en : DictEntry, es[i]? = some en ∧ v = en.key) acc es.size) : acc.toList = rs.map fun r => Value.ref r.2.1 := by
  apply List.ext_getElem?
  intro i
  by_cases hi : i < rs.length
  · obtain ⟨en, h1, h2⟩ := ent i rs[i] (List.getElem?_eq_getElem hi)
    have hi2 : i < acc.size := by rw [hacc.1, hsz]; exact hi
    obtain ⟨en', h3, h4⟩ := hacc.2 i acc[i] (by simp [hi2])
    rw [h1] at h3
    cases h3
    rw [List.getElem?_map, List.getElem?_eq_getElem hi, Array.getElem?_toList, Array.getElem?_eq_getElem hi2, h4, h2]
    rfl
  · have hi2 : ¬ i < acc.size := by rw [hacc.1, hsz]; exact hi
    rw [List.getElem?_eq_none (by simpa using hi2), List.getElem?_eq_none (by simpa using hi)]
theorem cr_sortedD {X : Cx} (hc : X.calm = true) (hu : X.A.units + 65 < cLine) : CallR X (.builtin "sorted") (rSortedD X.K) := by
  intro pins s σ H vs us Q I r h
  obtain ⟨a, xs, ds, rfl, hs, hd, hok, q⟩ := h
  rw [Vals.ref1 r]
  obtain ⟨o1, o2, o3, o4⟩ := sortOk_ok hok
  have hl := hd.length
  have hlz : (ds.zip xs).length = ds.length := by rw [List.length_zip, hl, Nat.min_self]
  have hal : AllAlike ((ds.zip xs).map PrV) := by rw [zip_fstD hl]; exact o1
  have hk : Sortable ((ds.zip xs).map PrV) := by rw [zip_fstD hl]; exact o2
  have memd : ∀ b ∈ ds.zip xs, b.1 ∈ ds := fun b hb => by
    have := List.mem_map_of_mem (f := Prod.fst) hb
    rwa [zip_fstD hl] at this
  have hbd : ∀ (n : Nat), n ≤ 2 → ∀ b, b ∈ ds.zip xs → X.A.units + n + (PrV b).depth < cLine := fun n hn b hb => by
    have := (o3 b.1 (memd b hb)).2
    show X.A.units + n + b.1.depth < cLine
    omega
  have rd : ∀ its : List Value, Vals xs its → EachIs (fun v (b : PyData × V) => RelV b.2 v ∧ ∃ as, Reads s.heap v b.1 as) its (ds.zip xs) := fun its rv => each_zip rv hl fun x d v hm rr =>
    ⟨rr, Dp.reads I d x v ((dna_zip hd _ hm).dp (o3 d (memd _ hm)).1) rr⟩
  have last : ∀ (hb : Heap) (out : List Value) (h' : Heap) (t' : Nat) (p : Addr), EachIs (fun v (b : PyData × V) => RelV b.2 v) out ((ds.zip xs).mergeSort (dataLe false PrV)) → (∀ b o, s.heap.get? b = some o → hb.get? b = some o) → (∀ b o, hb.get? b = some o → h'.get? b = some o) → hb.objs.size ≤ p → (∃ n, h'.get? p = some (seqObj "list" out.toArray n)) →
      ∃ x H', Inv X pins σ H' { s with heap := h', toks := t' } ∧ RelV x (.ref p) ∧ Q x H' := fun hb out h' t' p e k0 k hp ⟨n, hn⟩ => by
    have I1 : Inv X pins σ H { s with heap := hb } := I.kept (t' := s.toks) k0
    have hlen : (((ds.zip xs).mergeSort (dataLe false PrV)).map Prod.snd).length ≤ sizeLine := by rw [List.length_map, List.length_mergeSort, hlz]; exact o4
    exact ⟨.ref p, upd H p (.lst _), I1.laid (t' := t') k hp ⟨hlen, out, n, vals_each e, hn⟩, rfl, q p (I1.hok.fresh hp)⟩
  rcases hs with hs | ⟨o, rs, ho, rfl⟩
  · obtain ⟨its, rv, hlst, hz⟩ := I.list hs
    refine PySem.W.sorted_data (R := fun v (b : PyData × V) => RelV b.2 v) (enc := PrV) hlst.isList ((rd its rv).mono fun _ _ h => h.1) ((rd its rv).mono fun _ _ h => h.2) hal hk (by rw [hlz]; exact o4) (hbd 2 (Nat.le_refl _)) fun out hlo e => ?_
    obtain ⟨ep, he'⟩ := sortedAll_at s.heap its out.toArray
    exact last s.heap out _ s.toks _ e (fun _ _ h => h) (fun _ _ => sortedAll_old) (Nat.le_succ _) ⟨ep, he'⟩
  · obtain ⟨hs1, hgd, hx, es, ep, hdt, hsz, ent⟩ := Inv_frzN I ho
    have rv : Vals (rs.map fun r => V.ref r.2.1) (rs.map fun r => Value.ref r.2.1) := by
      have := vals_refs (rs.map fun r => r.2.1)
      rw [List.map_map, List.map_map] at this
      exact this
    have hn : rs.length ≤ sizeLine := by
      have : rs.length = ds.length := by simpa using hl
      omega
    refine PySem.Calls.call_function_entry PyProof.Rows.kind_sorted PyProof.Rows.plain_sorted PyProof.Rows.entry_sorted (PyProof.Rows.args_sorted1 _) ?_
    unfold Builtin.«sorted»
    refine wpAny_bind (m := checkCount "sorted" 1 1 _) (wpAny_pure ?_)
    refine wpAny_bind (PySem.W.kdu_collect (A := X.A.in1) (kdl_raw hs1 hx hdt) (I.ok.hd hc) hgd (by rw [hsz]; exact hn) fun h' tk acc hk' hacc => ?_)
    have hac := frzN_all (K := X.K) hsz ent hacc
    rw [hac]
    refine wpAny_bind (wpAny_newList ?_ (by rw [List.length_map]; exact hn))
    have hoL : (h'.push (seqObj "list" (rs.map fun r => Value.ref r.2.1).toArray 0)).get? h'.objs.size = some (seqObj "list" (rs.map fun r => Value.ref r.2.1).toArray 0) := Heap.get?_push_size _ rfl
    have er : EachIs (fun v (b : PyData × V) => RelV b.2 v ∧ ∃ as, Reads (h'.push (seqObj "list" (rs.map fun r => Value.ref r.2.1).toArray 0)) v b.1 as ∧ h'.objs.size ∉ as) (rs.map fun r => Value.ref r.2.1) (ds.zip (rs.map fun r => V.ref r.2.1)) := (rd _ rv).mono fun v b ⟨r1, as, r2⟩ =>
      ⟨r1, as, PyProof.Rows.Reads.keeps (fun _ _ e => Heap.get?_push_of_some _ (hk' _ _ e)) r2, fun hm => absurd (reads_here (PyProof.Rows.Reads.keeps hk' r2) _ hm) (Nat.lt_irrefl _)⟩
    have key := PySem.W.list_sort_data (prog := X.prog) (w := X.w) (A := X.A.in1) (s := { s with heap := h'.push (seqObj "list" (rs.map fun r => Value.ref r.2.1).toArray 0), toks := tk }) (E := X.xe) (R := fun v (b : PyData × V) => RelV b.2 v) (enc := PrV)
      (Q := fun _ s' => ∃ x H', Inv X pins σ H' s' ∧ RelV x (.ref h'.objs.size) ∧ Q x H') hoL (er.mono fun _ _ h => h.1) (er.mono fun _ _ h => h.2) hal hk (by rw [hlz]; exact o4) (fun b hb => hbd 2 (by omega) b hb) fun out hlo e => ?_
    · exact wpAny_bind (wpAny_holding (wpAny_mono key (fun _ s' x => wpAny_pure ⟨_, rfl, x⟩) fun _ _ e => e))
    · obtain ⟨n, hn'⟩ := sortedHeap_at (out := out.toArray) hoL
      refine last h' out _ tk _ e hk' (fun b o e => ?_) (Nat.le_refl _) ⟨n, hn'⟩
      have hb : b < h'.objs.size := Heap.lt_size e
      rw [sortedHeap_old (Nat.ne_of_lt hb) (by rw [size_push']; exact Nat.lt_succ_of_lt hb)]
      exact Heap.get?_push_of_some _ e
end
section
variable {X : Cx} {W : WX} {sc : Scope} {N : List Str} {a e : Expr} {p pos : Pos} {k : DA}
def srtA (Γ : List Sl) : AV → Option (List PyData × Bool)
  | .d fr (.list ds) => some (ds, fr)
  | .d fr (.dict kvs) => (decN kvs).map fun l => (l.map (·.1), fr)
  | .s i => match rdD Γ (.s i) with
    | some (.list ds) => some (ds, true)
    | _ => none
  | _ => none
theorem NdRel.refs {K : PySem.W.Frag} {G : Rg} {H : Hp} {rs : List (NestedKey × Addr × V)} {l : List (PyData × PyData)} (n : NdRel K G H rs l) : DnA K G H (rs.map fun r => .ref r.2.1) (l.map (·.1)) := by
  induction n with
  | nil => exact .nil
  | cons _ _ h3 _ _ ih => exact .cons h3 ih
theorem srtA_ok {G : Gh} {H : Hp} {σ : St} {Γ : List Sl} {x : AV} {v : V} {z : List PyData × Bool} (S : Sta X.K G H σ Γ) (hv : AVok X.K G H σ v x) (h : srtA Γ x = some z) :
    ∃ l xs, v = .ref l ∧ (SqL X.K H l xs ∨ ∃ o rs, H l = some (.frz o (NdO l rs)) ∧ xs = rs.map fun r => .ref r.2.1) ∧ DnA X.K (rg G z.2) H xs z.1 := by
  unfold srtA at h
  split at h
  · cases h
    obtain ⟨l, xs, rfl, g1, g2⟩ := dn_list hv
    exact ⟨l, xs, rfl, .inl (g1.mono (S.w.rgl _)).sq, g2⟩
  · rename_i fr kvs
    cases hd : decN kvs with
    | none => rw [hd] at h; cases h
    | some l =>
      rw [hd] at h; cases h
      have e := decN_ok hd
      subst e
      obtain ⟨p, rs, ob, rfl, h1, h2⟩ := ndA_frz (fr := fr) hv
      exact ⟨p, _, rfl, .inr ⟨ob, rs, S.w.rgl _ _ _ h1, rfl⟩, h2.refs⟩
  · rename_i i
    split at h
    · rename_i ds hd
      cases h
      obtain ⟨l, xs, rfl, g1, g2⟩ := S.slotL hd hv
      exact ⟨l, xs, rfl, .inl (SqL.of g1), g2⟩
    · cases h
  · cases h
def kSortD (Γ : List Sl) : List AV → R (List PyData)
  | [x] => match srtA Γ x with
    | some (ds, true) => gq (sortOk ds) (sortDl ds)
    | _ => .bad
  | _ => .bad
theorem cn_sortD (C : Cf X W sc N) (hg : glB sc "sorted" = true) (hm : X.mg "sorted" = none) (ha : CA X W [e] k) (he : starEach [e] X.env = (false, eval e X.env) :: starEach [] X.env := by rfl) : CN X W (.Call (.Name "sorted" p) [e] [] pos) (dBN kSortD k) :=
  cn_bB C.toCf0 kSortD (cr_sortedD C.calm (u65 C.toCf0)) hg hm PyProof.Rows.boot_sorted ha (fun as Γ2 G H σ vs Q S h q => by
    unfold kSortD at q
    split at q
    · rename_i x
      obtain ⟨v, rfl, hv⟩ := avs_one h
      split at q
      · rename_i ds hz
        obtain ⟨l, xs, rfl, hs, hd⟩ := srtA_ok S hv hz
        cases hc : sortOk ds with
        | false => rw [hc] at q; exact q.elim
        | true =>
          rw [hc] at q
          exact ⟨l, xs, ds, rfl, hs, hd.mono (S.w.rgl true) (TupLe.rf _), hc, fun p' hp' => Pn.v q S hp' (dna_sort hd)⟩
      · exact q.elim
    · exact q.elim) (by decide +kernel) (by decide +kernel) he
end
end PD
set_option Elab.async false
set_option linter.all false
set_option maxRecDepth 100000
set_option maxHeartbeats 4000000
set_option autoImplicit false
namespace PD
open PySem PySem.Spec L2
open PyProof.Rows hiding St
theorem NewC.lockD {K : PySem.W.Frag} {G : Gh} {H H' : Hp} {σ : St} {Γ : List Sl} {t : Dk} {kvs : List (PyData × PyData)} {v : V} (S : Sta K G H σ Γ) (h : NewC K (rg G true) H (.dic t kvs) v H') :
    ∃ p ob, v = .ref p ∧ H' p = some ob ∧ Mut (some ob) ∧ ∀ od, ∃ G', Sta K G' (upd H' p (.frz od ob)) σ Γ ∧ Ext G H G' (upd H' p (.frz od ob)) ∧ Dn K (rg G' true) (upd H' p (.frz od ob)) v (.dict kvs) := by
  obtain ⟨fp, h1, h2, p, o, vs, rfl, rfl, hp, hk, hd⟩ := h
  have hmu : Mut (some o) := by
    cases t with
    | k => obtain ⟨ks, rfl, _⟩ := hk; trivial
    | t => obtain ⟨ks, rfl, _⟩ := hk; trivial
    | n => obtain ⟨_, _, rfl, _⟩ := hk; trivial
  have hnt : ∀ xs, o ≠ .tup xs := fun xs z => by rw [z] at hmu; exact hmu
  refine ⟨p, o, rfl, hp, hmu, fun od => ?_⟩
  have hn : H p = none := (h2 p (by simp)).1
  have e : upd H' p (.frz od o) = upd H p (.frz od o) := by
    funext a
    by_cases q : a = p
    · subst q; rw [upd_same, upd_same]
    · rw [upd_ne q, upd_ne q]; exact h1 a (by simpa using q)
  have tl : TupLe H' (upd H' p (.frz od o)) := tup_mut hp hnt
  rw [e] at tl ⊢
  obtain ⟨S2, e2⟩ := S.grow (grow_new (o := .frz od o) S.w hn)
  exact ⟨_, S2, e2, .dct ⟨od, upd_same⟩ hk (hd.mono e2.n tl)⟩
def rsFK : Rs → Option PyData
  | .c (.dic _ kvs) => some (.dict kvs)
  | r => rsF r
def eXK (f : DX) : DF := fun Γ => (f Γ).bind fun z => (R.ofO (rsFK z.1)).bind fun d => .val (.d true d, z.2)
section
variable {X : Cx} {W : WX} {sc : Scope} {N : List Str} {e : Expr} {f : DX}
theorem ce_xK (h : CX X W e f) : CE X W e (eXK f) := fun Γ => pe_imp (pe_lk (h Γ)) fun σ H Q ⟨G, S, q⟩ => ⟨G, S, (Pst.bind q).imp fun z G1 H1 e1 p1 => by
  obtain ⟨r, Γ1⟩ := z
  cases r with
  | d x =>
    intro v S1 hv
    exact .inl (p1 G1 H1 (Ext.rf S1.w) v S1 hv)
  | c c =>
    intro v H2 S1 nc
    cases c with
    | lst ds =>
      obtain ⟨d, hd, p1⟩ := Pst.ofO p1
      obtain ⟨G2, S2, e2, hv⟩ := NewC.frz S1 nc hd
      exact .inl (p1 G2 H2 e2 v S2 hv)
    | feed f =>
      obtain ⟨d, hd, p1⟩ := Pst.ofO p1
      cases hd
    | tr T =>
      obtain ⟨d, hd, p1⟩ := Pst.ofO p1
      obtain ⟨G2, S2, e2, hv⟩ := NewC.frz S1 nc hd
      exact .inl (p1 G2 H2 e2 v S2 hv)
    | mul t l =>
      obtain ⟨d, hd, p1⟩ := Pst.ofO p1
      cases hd
    | dic t kvs =>
      obtain ⟨p, ob, rfl, hp, mu, k⟩ := NewC.lockD S1 nc
      refine .inr ⟨p, ob, hp, mu, fun od => ?_⟩
      obtain ⟨G2, S2, e2, hv⟩ := k od
      exact p1 G2 _ e2 _ S2 hv⟩
end
end PD
set_option Elab.async false
set_option linter.all false
set_option maxRecDepth 100000
set_option maxHeartbeats 4000000
set_option autoImplicit false
namespace PD
open PySem PySem.Spec L2
open PyProof.Rows hiding St
def repD (k : Int) (ds : List PyData) : List PyData := (List.replicate k.toNat ds).flatten
def repA : AV → AV → R AV
  | .d fr (.tuple ds), .d _ (.int k) => gq (decide (ds ≠ []) && decide (2 ≤ k) && decide (k ≤ 1000) && decide (ds.length ≤ 1000)) (.d fr (.tuple (repD k ds)))
  | _, _ => .bad
def dRepT (f g : DF) : DF := fun Γ => (f Γ).bind fun x => (g x.2).bind fun y => (repA x.1 y.1).bind fun z => .val (z, y.2)
section
variable {X : Cx} {W : WX} {sc : Scope} {N : List Str} {a b : Expr} {pos : Pos} {f g : DF}
theorem DnA.rep {K : PySem.W.Frag} {G : Rg} {H : Hp} {xs : List V} {ds : List PyData} (h : DnA K G H xs ds) : ∀ n : Nat, DnA K G H (List.replicate n xs).flatten (List.replicate n ds).flatten
  | 0 => .nil
  | n + 1 => by
    rw [List.replicate_succ, List.replicate_succ, List.flatten_cons, List.flatten_cons]
    exact h.append (DnA.rep h n)
theorem ce_repT (ha : CE X W a f) (hb : CE X W b g) : CE X W (.BinOp a .Mult b pos) (dRepT f g) := by
  refine ce_op2 (fun x y Γ2 => (repA x y).bind fun z => .val (z, Γ2)) op_repT ha hb fun x y Γ2 G H σ u v Q S hu hv p => ?_
  unfold repA at p
  split at p
  · rename_i fr ds _ k
    rcases gq_cases (decide (ds ≠ []) && decide (2 ≤ k) && decide (k ≤ 1000) && decide (ds.length ≤ 1000)) (AV.d fr (.tuple (repD k ds))) with e | ⟨hc, e⟩
    · rw [e] at p; exact p.elim
    · rw [e] at p
      simp only [Bool.and_eq_true, decide_eq_true_eq] at hc
      obtain ⟨q, xs, rfl, g1, g2⟩ := dn_tuple hu
      have hl := g2.length
      refine ⟨q, k, xs, rfl, dn_int hv, g1, fun e => ?_, hc.1.1.2, hc.1.2, by rw [hl]; exact hc.2, fun l hq => ?_⟩
      · rw [e] at hl
        exact hc.1.1.1 (List.length_eq_zero_iff.mp hl.symm)
      · obtain ⟨G2, S2, e2, h2⟩ := S.newTup hq (g2.rep k.toNat)
        exact Pk.v' p e2 S2 h2
  · exact p.elim
end
end PD
set_option Elab.async false
set_option linter.all false
set_option maxRecDepth 100000
set_option maxHeartbeats 4000000
set_option autoImplicit false
namespace PD
open PySem L2
section
variable {X : Cx} {W : WX} {sc : Scope} {N : List Str} {s : Stmt} {ss : List Stmt} {b : DS}
def lentL (Γ : List Sl) (i : Nat) : Option (List PyData) := match Γ[i]? with
  | some (.lent (.lst ds)) => some ds
  | _ => none
variable {tg : Expr} {x : Str} {p p2 pos : Pos}
end
end PD
set_option Elab.async false
set_option linter.all false
set_option maxRecDepth 100000
set_option maxHeartbeats 4000000
set_option autoImplicit false
namespace PD
open PySem L2
section
variable {X : Cx} {pins : List (Addr × Obj)} {σ : St} {H : Hp} {s : Shared} {a b : Addr} {u r : Value} {d : V} {k : List Key} {A : Around} {E : Value → Shared → Prop}
end
inductive LsOk (K : PySem.W.Frag) (G : Rg) (H : Hp) : List Addr → List (List PyData) → Prop
  | nil : LsOk K G H [] []
  | cons {q : Addr} {qs : List Addr} {xs : List V} {ds : List PyData} {l : List (List PyData)} : H q = some (.lst xs) → DnA K G H xs ds → LsOk K G H qs l → LsOk K G H (q :: qs) (ds :: l)
theorem LsOk.mono {K : PySem.W.Frag} {G G' : Rg} {H H' : Hp} (g : RgLe G G') (t : TupLe H H') {qs : List Addr} {l : List (List PyData)} (h : LsOk K G H qs l) : (∀ q ∈ qs, H' q = H q) → LsOk K G' H' qs l := by
  induction h with
  | nil => exact fun _ => .nil
  | cons a b _ ih => exact fun k => .cons (by rw [k _ List.mem_cons_self]; exact a) (b.mono g t) (ih fun q hq => k q (List.mem_cons_of_mem _ hq))
theorem LsOk.get {K : PySem.W.Frag} {G : Rg} {H : Hp} {qs : List Addr} {l : List (List PyData)} (h : LsOk K G H qs l) : ∀ {i : Nat} {q : Addr}, qs[i]? = some q → ∃ xs ds, l[i]? = some ds ∧ H q = some (.lst xs) ∧ DnA K G H xs ds := by
  induction h with
  | nil => intro i q e; simp at e
  | cons a b _ ih =>
    intro i q e
    cases i with
    | zero => cases e; exact ⟨_, _, rfl, a, b⟩
    | succ i => exact ih (by simpa using e)
theorem LsOk.set {K : PySem.W.Frag} {G : Rg} {H : Hp} {qs : List Addr} {l : List (List PyData)} (h : LsOk K G H qs l) : ∀ {i : Nat} {q : Addr} {xs : List V} {ds : List PyData}, qs[i]? = some q → qs.Nodup → H q ≠ none → (∀ ys, H q ≠ some (.tup ys)) → DnA K G H xs ds → LsOk K G (upd H q (.lst xs)) qs (l.set i ds) := by
  induction h with
  | nil => intro i q xs ds e; simp at e
  | @cons q0 qs0 xs0 ds0 l0 a b c ih =>
    intro i q xs ds e nd hq ht hd
    obtain ⟨n1, n2⟩ := List.nodup_cons.mp nd
    have t : TupLe H (upd H q (.lst xs)) := fun c ys z => by
      have : c ≠ q := fun w => by rw [w] at z; exact ht ys z
      rw [upd_ne this]; exact z
    cases i with
    | zero =>
      cases e
      exact .cons upd_same (hd.mono (fun _ _ z => z) t) (c.mono (fun _ _ z => z) t fun c hc => upd_ne (fun w => n1 (by rw [← w]; exact hc)))
    | succ i =>
      have e : qs0[i]? = some q := by simpa using e
      have ne : q0 ≠ q := fun w => n1 (by rw [w]; exact List.mem_of_getElem? e)
      exact .cons (by rw [upd_ne ne]; exact a) (b.mono (fun _ _ z => z) t) (ih e n2 hq ht hd)
theorem LsOk.snoc {K : PySem.W.Frag} {G : Rg} {H : Hp} {q : Addr} {xs : List V} {ds : List PyData} {qs : List Addr} {l : List (List PyData)} (h : LsOk K G H qs l) (hq : H q = some (.lst xs)) (hd : DnA K G H xs ds) : LsOk K G H (qs ++ [q]) (l ++ [ds]) := by
  induction h with
  | nil => exact .cons hq hd .nil
  | cons a b _ ih => exact .cons a b ih
theorem LsOk.nt {K : PySem.W.Frag} {G : Rg} {H : Hp} {qs : List Addr} {l : List (List PyData)} (h : LsOk K G H qs l) : ∀ q ∈ qs, ∃ xs, H q = some (.lst xs) := by
  induction h with
  | nil => intro q hq; cases hq
  | cons a b _ ih =>
    intro q hq
    rcases List.mem_cons.mp hq with rfl | hq
    · exact ⟨_, a⟩
    · exact ih q hq
section
variable {X : Cx} {W : WX} {sc : Scope} {N : List Str} {x y : Str} {e : Expr} {pos lpos p1 p2 a1 a2 c1 c2 : Pos} {fk : DF}
end
end PD
set_option Elab.async false
set_option linter.all false
set_option maxRecDepth 100000
set_option maxHeartbeats 4000000
set_option autoImplicit false
namespace PD
open PySem PySem.Spec L2 Srt SrtO
open PySem.W (alike AllAlike Sortable dataLe EachIs dataLt)
open PyProof.Rows hiding St
section
variable {X : Cx}
end
section
variable {X : Cx} {W : WX} {sc : Scope} {N : List Str} {a b c e : Expr} {pos p : Pos} {f g : DF} {k : DA}
end
section
variable {prog : Program} {w : World} {A : Around} {E : Value → Shared → Prop} {s : Shared} {β : Type} {vs : List Value} {bs : List β} {enc : β → PyData} {R : Value → β → Prop}
open PySem.W
end
section
variable {X : Cx} {W : WX} {sc : Scope} {N : List Str} {a e e2 : Expr} {p pos : Pos} {k : DA}
end
end PD
set_option Elab.async false
set_option linter.all false
set_option maxRecDepth 100000
set_option maxHeartbeats 4000000
set_option autoImplicit false
namespace PD
open PySem PySem.Spec L2
open PySem.W (alike dataLt AlikeAll minD)
open PyProof.Rows hiding St
section
variable {X : Cx} {W : WX} {sc : Scope} {N : List Str} {a b e e2 : Expr} {p pos : Pos} {k : DA} {f g : DF}
end
section
variable {X : Cx} {W : WX} {sc : Scope} {N : List Str} {x y : Str} {p p2 pos apos cpos : Pos}
end
theorem LsOk.dna {K : PySem.W.Frag} {G : Rg} {H : Hp} {qs : List Addr} {l : List (List PyData)} (h : LsOk K G H qs l) {G' : Rg} (g : RgLe G G') (k : ∀ q ∈ qs, ∀ o, H q = some o → G' q o) : DnA K G' H (qs.map V.ref) (l.map PyData.list) := by
  induction h with
  | nil => exact .nil
  | cons a b _ ih => exact .cons (.lst (.inl (k _ List.mem_cons_self _ a)) (b.mono g (TupLe.rf _))) (ih fun q hq => k q (List.mem_cons_of_mem _ hq))
section
variable {X : Cx} {W : WX} {sc : Scope} {N : List Str} {ss : List Stmt} {g : DS}
end
end PD
set_option Elab.async false
set_option linter.all false
set_option maxRecDepth 100000
set_option maxHeartbeats 4000000
set_option autoImplicit false
namespace PD
open PySem L2
section
variable {X : Cx} {W : WX} {sc : Scope} {N : List Str} {e : Expr} {pos p1 : Pos} {x : Str}
end
end PD
set_option Elab.async false
set_option linter.all false
set_option maxRecDepth 100000
set_option maxHeartbeats 4000000
set_option autoImplicit false
namespace PySem
section
variable {prog : Program} {w : World} {A : Around} {E : Value → Shared → Prop} {s : Shared} {d : Addr} {es : Array DictEntry} {ep : Nat}
theorem len_dict_raw {Q : Value → Shared → Prop} (hd : (d == sysModules) = false) (hm : s.heap.DictRaw d es ep) (hfit : ¬ ((es.size : Nat) : Int) ≥ 2 ^ 63) (h : ∀ t1 t2, Q (.int (es.size : Nat) t1) { s with toks := t2 }) : wpAny (model prog w) A (call (.builtin "len") [.ref d]) Q E s := by
  refine Calls.call_function_entry kind_len plain_len entry_len (args_len1 _) ?_
  unfold Builtin.«len»
  refine wpAny_bind (m := oneArg "len" _) (wpAny_pure ?_)
  refine wpAny_bind (m := callSpecial? (.ref d) (Str.ofString "__len__")) (wpAny_callSpecial?_slot (name := Str.ofString "__len__") hm.typeIs F.slot_dict_len (call_len_raw hd hm ?_))
  refine wpAny_bind (wpAny_holding (wpAny_pure ?_))
  refine wpAny_bind (wpAny_letGo ?_)
  show wpAny _ _ (if ((es.size : Nat) : Int) < 0 then _ else _) _ _ _
  rw [if_neg (by omega)]
  show wpAny _ _ (if ((es.size : Nat) : Int) ≥ 2 ^ 63 then _ else _) _ _ _
  rw [if_neg hfit]
  exact wpAny_bind (wpAny_mkInt (wpAny_pure ⟨_, rfl, h _ _⟩))
end
end PySem
namespace PD
open PySem L2
theorem call_len_nest {X : Cx} : CallR X (.builtin "len") (fun xs H Q => ∃ p rs, xs = [.ref p] ∧ Rd H p (NdO p rs) ∧ Q (.int rs.length) H) := by
  intro pins s σ H xs us Q I r h
  obtain ⟨p, rs, rfl, hr, q⟩ := h
  obtain ⟨u, rfl, rx⟩ := vals1 r
  cases rx
  obtain ⟨n1, n2, _, w', ys, o, es, ep, pr, ho, hx, hd, he, _⟩ := nd_of_ok (hr.ok I.hok)
  have hsz : es.size = rs.length := by
    rw [← Array.length_toList, he, List.length_map, ← Paired.length pr]
  have hn := line63
  refine len_dict_raw n2 ⟨o, ho, hx, hd⟩ (by omega) fun t1 t2 => ⟨.int rs.length, H, I.tok _, ⟨t1, by rw [hsz]⟩, q⟩
section
variable {X : Cx} {W : WX} {sc : Scope} {N : List Str} {e : Expr} {pos p : Pos} {k : DA}
def kLenN (Γ : List Sl) : List AV → R AV
  | [x] => match ndA Γ x with
    | some z => .val (.d true (.int (z.2.length : Nat)))
    | none => .bad
  | _ => .bad
theorem ce_lenN (C : Cf0 X W sc N) (hg : glB sc "len" = true) (hm : X.mg "len" = none) (ha : CA X W [e] k) (he : starEach [e] X.env = (false, eval e X.env) :: starEach [] X.env := by rfl) : CE X W (.Call (.Name "len" p) [e] [] pos) (dB kLenN k) :=
  ce_bB C kLenN call_len_nest hg hm PySem.boot_len ha (fun as Γ2 G H σ vs Q S h q => by
    unfold kLenN at q
    split at q
    · obtain ⟨v, rfl, hv⟩ := avs_one h
      split at q
      · rename_i z hz
        obtain ⟨l, rs, rfl, h1, h2⟩ := ndA_ok hz S hv
        refine ⟨l, rs, rfl, h1, Pk.v q S ?_⟩
        rw [h2.len]
        exact .int _
      · exact q.elim
    · exact q.elim) (he := he)
end
end PD
set_option linter.all false
set_option maxRecDepth 100000
set_option autoImplicit false
namespace PD
open PySem L2
def Ok {α : Type} (m : R α) (P : α → Prop) : Prop := ∃ a, m = .val a ∧ P a
section
variable {α β : Type} {P : α → Prop} {Q : β → Prop}
theorem ok_val {a : α} (h : P a) : Ok (.val a) P := ⟨a, rfl, h⟩
theorem ok_bind {m : R α} {k : α → R β} (h : Ok m P) (hk : ∀ a, P a → Ok (k a) Q) : Ok (m.bind k) Q := by
  obtain ⟨a, rfl, p⟩ := h
  exact hk a p
theorem Ok.mono {P' : α → Prop} {m : R α} (h : Ok m P) (hk : ∀ a, P a → P' a) : Ok m P' := by
  obtain ⟨a, e, p⟩ := h
  exact ⟨a, e, hk a p⟩
theorem ok_of {m : R α} {a : α} (h : m = .val a) (p : P a) : Ok m P := ⟨a, h, p⟩
theorem ok_eq {m : R α} {a : α} (h : Ok m fun z => z = a) : m = .val a := by
  obtain ⟨b, e, rfl⟩ := h
  exact e
end
theorem bind_val {α β : Type} (a : α) (k : α → R β) : (R.val a).bind k = k a := rfl
theorem req_true : R.req true = .val () := rfl
theorem ofO_some {α : Type} (a : α) : R.ofO (some a) = .val a := rfl
theorem gq_of {α : Type} {c : Bool} (a : α) (h : c = true) : gq c a = .val a := by subst h; rfl
theorem ok_loopU {is : List Nat} {g : DG} {fr : Bool} {b : DS} {Post : Fw × List Sl → Prop} (Inv : Nat → List Sl → Prop) (ds : List PyData) {Γ : List Sl} (h0 : Inv 0 (wipeG Γ is))
    (hb : ∀ i d Γ, ds[i]? = some d → Inv i Γ → ∃ Γ1, g fr d Γ = some Γ1 ∧ Ok (b Γ1) fun z => match z.1 with
      | .nx => Inv (i + 1) (wipeG z.2 is)
      | .ct => Inv (i + 1) (wipeG z.2 is)
      | .bk => Post (.nx, wipeG z.2 is)
      | .rt r => Post (.rt r, z.2)) (hd : ∀ Γ, Inv ds.length Γ → Post (.nx, Γ)) : Ok (loopU is g fr b ds Γ) Post := by
  have key : ∀ (n : Nat) (xs : List PyData) (Γ : List Sl), (∀ j, xs[j]? = ds[n + j]?) → n + xs.length = ds.length → Inv n (wipeG Γ is) → Ok (loopU is g fr b xs Γ) Post := by
    intro n xs
    induction xs generalizing n with
    | nil =>
      intro Γ _ hl h
      unfold loopU
      refine ok_val (hd _ ?_)
      have : ds.length = n := by simpa using hl.symm
      rw [this]; exact h
    | cons d xs ih =>
      intro Γ hx hl h
      unfold loopU
      obtain ⟨Γ1, e1, o⟩ := hb n d _ (by have := hx 0; simpa using this.symm) h
      rw [e1, ofO_some, bind_val]
      refine ok_bind o fun z hz => ?_
      obtain ⟨w, Γ2⟩ := z
      have hx' : ∀ j, xs[j]? = ds[n + 1 + j]? := fun j => by
        have := hx (j + 1)
        simp only [List.getElem?_cons_succ] at this
        rw [this]; congr 1; omega
      cases w with
      | nx => exact ih (n + 1) Γ2 hx' (by simp at hl; omega) hz
      | ct => exact ih (n + 1) Γ2 hx' (by simp at hl; omega) hz
      | bk => exact ok_val hz
      | rt r => exact ok_val hz
  exact key 0 ds Γ (fun j => by simp) (by simp) h0
theorem ok_loopW {is : List Nat} {c : DT} {b : DS} {Post : Fw × List Sl → Prop} (Inv : Nat → List Sl → Prop)
    (hb : ∀ n Γ, Inv n Γ → Ok (c Γ) fun x => if x.1 then Ok (b x.2) fun z => match z.1 with
      | .nx => ∃ m, m < n ∧ Inv m (wipeG z.2 is)
      | .ct => ∃ m, m < n ∧ Inv m (wipeG z.2 is)
      | .bk => Post (.nx, wipeG z.2 is)
      | .rt r => Post (.rt r, z.2) else Post (.nx, x.2)) : ∀ (fuel n : Nat) (Γ : List Sl), n < fuel → Inv n (wipeG Γ is) → Ok (loopW is c b fuel Γ) Post := by
  intro fuel
  induction fuel with
  | zero => intro n Γ h; omega
  | succ f ih =>
    intro n Γ hn h
    unfold loopW
    refine ok_bind (hb n _ h) fun x hx => ?_
    by_cases e : x.1 = true
    · rw [if_pos e] at hx ⊢
      refine ok_bind hx fun z hz => ?_
      obtain ⟨w, Γ2⟩ := z
      cases w with
      | nx => obtain ⟨m, h1, h2⟩ := hz; exact ih m Γ2 (by omega) h2
      | ct => obtain ⟨m, h1, h2⟩ := hz; exact ih m Γ2 (by omega) h2
      | bk => exact ok_val hz
      | rt r => exact ok_val hz
    · rw [if_neg e] at hx ⊢
      exact ok_val hx
theorem ok_compU {vs : List Nat} {g : DG} {fr : Bool} {t : DT} {e : DF} {Post : List PyData × List Sl → Prop} (Inv : Nat → List PyData → List Sl → Prop) (ds : List PyData) {Γ : List Sl} (h0 : Inv 0 [] Γ)
    (hb : ∀ i d out Γ, ds[i]? = some d → Inv i out Γ → ∃ Γ1, g fr d Γ = some Γ1 ∧ Ok (t Γ1) fun x => if x.1 then Ok (e x.2) fun y => ∃ o, avD y.1 = some o ∧ Inv (i + 1) (out ++ [o]) (wipeG y.2 vs) else Inv (i + 1) out (wipeG x.2 vs))
    (hd : ∀ out Γ, Inv ds.length out Γ → Post (out, Γ)) : Ok (compU vs g fr t e ds Γ) Post := by
  have key : ∀ (n : Nat) (xs : List PyData) (pre : List PyData) (Γ : List Sl), (∀ j, xs[j]? = ds[n + j]?) → n + xs.length = ds.length → Inv n pre Γ → Ok (compU vs g fr t e xs Γ) fun z => Post (pre ++ z.1, z.2) := by
    intro n xs
    induction xs generalizing n with
    | nil =>
      intro pre Γ _ hl h
      unfold compU
      refine ok_val ?_
      have : ds.length = n := by simpa using hl.symm
      show Post (pre ++ [], Γ)
      rw [List.append_nil]
      exact hd _ _ (by rw [this]; exact h)
    | cons d xs ih =>
      intro pre Γ hx hl h
      rw [compU_cons]
      obtain ⟨Γ1, e1, o⟩ := hb n d pre Γ (by have := hx 0; simpa using this.symm) h
      have hx' : ∀ j, xs[j]? = ds[n + 1 + j]? := fun j => by
        have := hx (j + 1)
        simp only [List.getElem?_cons_succ] at this
        rw [this]; congr 1; omega
      rw [e1]
      obtain ⟨x, ex, ox⟩ := o
      rw [ofO_some, bind_val, ex]
      show Ok (if x.1 then _ else _) _
      by_cases hc : x.1 = true
      · rw [if_pos hc] at ox ⊢
        obtain ⟨y, ey, w, ew, hw⟩ := ox
        rw [ey]
        show Ok ((R.ofO (avD y.1)).bind _) _
        rw [ew, ofO_some, bind_val]
        refine ok_bind (ih (n + 1) (pre ++ [w]) _ hx' (by simp at hl; omega) hw) fun r hr => ok_val ?_
        show Post (pre ++ w :: r.1, r.2)
        have : pre ++ w :: r.1 = pre ++ [w] ++ r.1 := by simp
        rw [this]; exact hr
      · rw [if_neg hc] at ox ⊢
        exact ih (n + 1) pre _ hx' (by simp at hl; omega) ox
  have := key 0 ds [] Γ (fun j => by simp) (by simp) h0
  refine this.mono fun z hz => ?_
  simpa using hz
end PD
set_option linter.all false
set_option maxRecDepth 100000
set_option autoImplicit false
namespace PD
open PySem L2
section
variable {Γ Γ1 Γ2 Γ3 : List Sl} {f g h : DF} {k : DA} {n : DN} {c : DC} {t t2 : DT} {fr fr2 : Bool} {d : PyData} {i j : Int} {z z2 : Bool} {ds es : List PyData} {a b : AV} {as : List AV}
theorem e_var {m : Nat} (e : Γ[m]? = some (.dat fr d)) : dVar m Γ = .val (.d fr d, Γ) := by unfold dVar; rw [e]
theorem e_varO {m : Nat} {c : Cl} (e : Γ[m]? = some (.own c)) : dVar m Γ = .val (.s m, Γ) := by unfold dVar; rw [e]
theorem e_varI {m : Nat} {c : Cl} (e : Γ[m]? = some (.io c)) : dVar m Γ = .val (.s m, Γ) := by unfold dVar; rw [e]
theorem e_C : dC d Γ = .val (.d true d, Γ) := rfl
theorem e_I {kk : Int → Int → R Int} {r : Int} (h1 : f Γ = .val (.d fr (.int i), Γ1)) (h2 : g Γ1 = .val (.d fr2 (.int j), Γ2)) (h3 : kk i j = .val r) : dI kk f g Γ = .val (.d true (.int r), Γ2) := by
  unfold dI; rw [h1, bind_val, h2, bind_val]; simp only; rw [h3, bind_val]
theorem k_sub : kSub i j = .val (i - j) := rfl
theorem k_and : kAnd i j = .val (Builtin.bitAnd i j) := rfl
theorem k_or : kOr i j = .val (Builtin.bitOr i j) := rfl
theorem k_mul (e : cMulX i j = true) : kMul i j = .val (i * j) := gq_of _ e
theorem k_div (e : cDiv i j = true) : kDiv i j = .val (i / j) := gq_of _ e
theorem k_mod (e : cMod i j = true) : kMod i j = .val (i % j) := gq_of _ e
theorem k_pow (e : cPow i j = true) : kPow i j = .val (i ^ j.toNat) := gq_of _ e
theorem k_shl (e : cShl i j = true) : kShl i j = .val (i * 2 ^ j.toNat) := gq_of _ e
theorem k_shr (e : cShr i j = true) : kShr i j = .val (i / 2 ^ j.toNat) := gq_of _ e
theorem e_add (h1 : f Γ = .val (.d fr (.int i), Γ1)) (h2 : g Γ1 = .val (.d fr2 (.int j), Γ2)) : dAdd f g Γ = .val (.d true (.int (i + j)), Γ2) := by
  unfold dAdd; rw [h1, bind_val, h2, bind_val]; rfl
theorem e_neg (h1 : f Γ = .val (.d fr (.int i), Γ1)) : dNeg f Γ = .val (.d true (.int (-i)), Γ1) := by
  unfold dNeg; rw [h1, bind_val]
theorem e_cmp {kk : List Sl → AV → AV → R Bool} (h1 : f Γ = .val (a, Γ1)) (h2 : g Γ1 = .val (b, Γ2)) (h3 : kk Γ2 a b = .val z) : dCmp kk f g Γ = .val (.d true (.bool z), Γ2) := by
  unfold dCmp boolR; rw [h1, bind_val, h2, bind_val, h3, bind_val]
theorem k_eqI : kEq Γ (.d fr (.int i)) (.d fr2 (.int j)) = .val (decide (i = j)) := by unfold kEq rdD; exact gq_of _ rfl
theorem k_neI : kNe Γ (.d fr (.int i)) (.d fr2 (.int j)) = .val (!decide (i = j)) := by unfold kNe; rw [k_eqI]; rfl
theorem k_eq {p q : PyData} (h1 : rdD Γ a = some p) (h2 : rdD Γ b = some q) (s1 : SeqAt.shaped p = true) (s2 : SeqAt.shaped q = true) (e : PyData.eqv p q = z) : kEq Γ a b = .val z := by
  unfold kEq; rw [h1, h2]; simp only [s1, s2, Bool.and_true]; rw [e]; rfl
theorem k_ne {p q : PyData} (h1 : rdD Γ a = some p) (h2 : rdD Γ b = some q) (s1 : SeqAt.shaped p = true) (s2 : SeqAt.shaped q = true) (e : PyData.eqv p q = z) : kNe Γ a b = .val (!z) := by
  unfold kNe; rw [k_eq h1 h2 s1 s2 e]; rfl
theorem k_I {r : Int → Int → Bool} : kI r Γ (.d fr (.int i)) (.d fr2 (.int j)) = .val (r i j) := rfl
theorem k_is {p : PyData} (h : rdD Γ a = some p) : kIs Γ a (.d fr .none) = .val (isN p) := by unfold kIs; rw [h]
theorem t_tst (h1 : f Γ = .val (.d fr (.bool z), Γ1)) : dTst f Γ = .val (z, Γ1) := by unfold dTst; rw [h1]; rfl
theorem t_not (h1 : t Γ = .val (z, Γ1)) : dTnot t Γ = .val (!z, Γ1) := by unfold dTnot; rw [h1]; rfl
theorem t_or (h1 : t Γ = .val (z, Γ1)) (h2 : z = false → t2 Γ1 = .val (z2, Γ1)) : dTor t t2 Γ = .val (z || z2, Γ1) := by
  unfold dTor; rw [h1, bind_val]
  cases z with
  | true => rfl
  | false =>
    show ((t2 Γ1).bind fun y => R.val y) = _
    rw [h2 rfl]; rfl
theorem t_and (h1 : t Γ = .val (z, Γ1)) (h2 : z = true → t2 Γ1 = .val (z2, Γ1)) : dTand t t2 Γ = .val (z && z2, Γ1) := by
  unfold dTand; rw [h1, bind_val]
  cases z with
  | false => rfl
  | true =>
    show ((t2 Γ1).bind fun y => R.val y) = _
    rw [h2 rfl]; rfl
theorem e_not (h1 : f Γ = .val (.d fr (.bool z), Γ1)) : dNot f Γ = .val (.d true (.bool (!z)), Γ1) := by unfold dNot; rw [h1]; rfl
theorem e_and (h1 : f Γ = .val (.d fr (.bool z), Γ1)) (h2 : z = true → g Γ1 = .val (.d fr2 (.bool z2), Γ1)) : dAnd f g Γ = .val (.d true (.bool (z && z2)), Γ1) := by
  unfold dAnd; rw [h1, bind_val]
  cases z with
  | false => rfl
  | true => show ((g Γ1).bind _) = _; rw [h2 rfl]; rfl
theorem e_or (h1 : f Γ = .val (.d fr (.bool z), Γ1)) (h2 : z = false → g Γ1 = .val (.d fr2 (.bool z2), Γ1)) : dOr f g Γ = .val (.d true (.bool (z || z2)), Γ1) := by
  unfold dOr; rw [h1, bind_val]
  cases z with
  | true => rfl
  | false => show ((g Γ1).bind _) = _; rw [h2 rfl]; rfl
theorem a_nil : dA0 Γ = .val ([], Γ) := rfl
theorem a_cons (h1 : f Γ = .val (a, Γ1)) (h2 : k Γ1 = .val (as, Γ2)) : dAc f k Γ = .val (a :: as, Γ2) := by unfold dAc; rw [h1, bind_val, h2]; rfl
theorem e_frz (h1 : f Γ = .val (.d true d, Γ1)) : dFrz f Γ = .val (.d true d, Γ1) := by unfold dFrz; rw [h1]; rfl
theorem e_frzF (h1 : f Γ = .val (.d false d, Γ1)) : dFrz f Γ = .val (.d (flat d) d, Γ1) := by unfold dFrz; rw [h1]; rfl
theorem e_frzD (h1 : f Γ = .val (.d fr d, Γ1)) : dFrz f Γ = .val (.d (fr || flat d) d, Γ1) := by
  cases fr with
  | true => exact e_frz h1
  | false => rw [Bool.false_or]; exact e_frzF h1
theorem e_frzO {m : Nat} (h1 : f Γ = .val (.s m, Γ1)) (h2 : Γ1[m]? = some (.own (.lst ds))) : dFrz f Γ = .val (.d true (.list ds), Γ1.set m (.dat true (.list ds))) := by
  unfold dFrz; rw [h1, bind_val]; simp only [frzA, h2]
theorem n_lst (h1 : k Γ = .val (as, Γ1)) (h2 : allT as = some ds) (h3 : szB as = true) : dLst k Γ = .val (ds, Γ1) := by
  unfold dLst; rw [h1, bind_val]; simp only [h2]; exact gq_of _ h3
theorem e_tup (h1 : k Γ = .val (as, Γ1)) (h2 : allF as = some (ds, fr)) (h3 : szB as = true) : dTup k Γ = .val (.d fr (.tuple ds), Γ1) := by
  unfold dTup; rw [h1, bind_val]; simp only [h2]; exact gq_of _ h3
theorem e_ofN (h1 : n Γ = .val (ds, Γ1)) : dOfN n Γ = .val (.d true (.list ds), Γ1) := by unfold dOfN; rw [h1]; rfl
theorem c_l (h1 : n Γ = .val (ds, Γ1)) : nL n Γ = .val (.lst ds, Γ1) := by unfold nL; rw [h1]; rfl
theorem x_c {cl : Cl} (h1 : c Γ = .val (cl, Γ1)) : xC c Γ = .val (.c cl, Γ1) := by unfold xC; rw [h1]; rfl
theorem e_xd {x : DX} (h1 : x Γ = .val (.d d, Γ1)) : eX x Γ = .val (.d true d, Γ1) := by unfold eX; rw [h1]; rfl
theorem e_ixL (h1 : f Γ = .val (.d fr (.list ds), Γ1)) (h2 : g Γ1 = .val (.d fr2 (.int i), Γ2)) (h3 : atI ds i = some d) : dIxB f g Γ = .val (.d fr d, Γ2) := by
  unfold dIxB; rw [h1, bind_val, h2, bind_val]; unfold ixB dicA ixA; simp only [h3]; rfl
theorem e_ixT (h1 : f Γ = .val (.d fr (.tuple ds), Γ1)) (h2 : g Γ1 = .val (.d fr2 (.int i), Γ2)) (h3 : atI ds i = some d) : dIxB f g Γ = .val (.d fr d, Γ2) := by
  unfold dIxB; rw [h1, bind_val, h2, bind_val]; unfold ixB dicA ixA; simp only [h3]; rfl
theorem e_ixS {m : Nat} (h1 : f Γ = .val (.s m, Γ1)) (h2 : g Γ1 = .val (.d fr2 (.int i), Γ2)) (h4 : rdD Γ2 (.s m) = some (.list ds)) (h3 : atI ds i = some d) : dIxB f g Γ = .val (.d true d, Γ2) := by
  unfold dIxB; rw [h1, bind_val, h2, bind_val]
  have e : dicA Γ2 (.s m) = none := by
    unfold rdD at h4
    unfold dicA
    simp only at h4 ⊢
    split at h4 <;> simp_all
  show (ixB Γ2 (.s m) (.d fr2 (.int i))).bind _ = _
  unfold ixB
  rw [e]
  simp only [ixA, h4, h3]
  rfl
theorem e_B {q : List Sl → List AV → R AV} (h1 : k Γ = .val (as, Γ1)) (h2 : q Γ1 as = .val a) : dB q k Γ = .val (a, Γ1) := by unfold dB; rw [h1, bind_val, h2]; rfl
theorem n_B {q : List Sl → List AV → R (List PyData)} (h1 : k Γ = .val (as, Γ1)) (h2 : q Γ1 as = .val ds) : dBN q k Γ = .val (ds, Γ1) := by unfold dBN; rw [h1, bind_val, h2]; rfl
theorem k_lenL (h : rdD Γ a = some (.list ds)) : kLen Γ [a] = .val (.d true (.int (ds.length : Nat))) := by unfold kLen; simp only [h]
theorem k_lenT (h : rdD Γ a = some (.tuple ds)) : kLen Γ [a] = .val (.d true (.int (ds.length : Nat))) := by unfold kLen; simp only [h]
theorem x_call {m : List Ar → R (Rs × List Sl)} {dds : List PyData} {r : Rs} {Z : List Sl} (h1 : k Γ = .val (as, Γ1)) (h2 : rdDs Γ1 none as = some ds) (h3 : m ((ds ++ dds).map Ar.d) = .val (r, Z)) : xCall m dds k Γ = .val (r, Γ1) := by
  unfold xCall; rw [h1, bind_val, h2, ofO_some, bind_val, h3]; rfl
theorem x_callC {m : List Ar → R (Rs × List Sl)} {dds : List PyData} {r : Rs} {Z : List Sl} {p q : Nat} {ic : Bool × Cl} {cl : Cl} (h1 : k Γ = .val (as, Γ1)) (h2 : pickC p as = some q) (h3 : cellAt Γ1 q = some ic) (h4 : rdDs Γ1 (some q) (as.eraseIdx p) = some ds) (h5 : ic.2.fl = true) (h6 : m (insC p ic.2 (ds ++ dds)) = .val (r, Z)) (h7 : ioAt p Z = some cl) :
    xCallC m p dds k Γ = .val (r, Γ1.set q (mkS ic.1 cl)) := by
  unfold xCallC; rw [h1, bind_val]; unfold preC; rw [h2, ofO_some, bind_val, h3, ofO_some, bind_val, h4, ofO_some, bind_val, h5]
  show ((m (insC p ic.2 (ds ++ dds))).atC p Γ1 q ic.1).bind _ = _
  rw [h6]
  show ((R.ofO (ioAt p Z)).bind _).bind _ = _
  rw [h7]
  rfl
theorem i_seqL (h1 : f Γ = .val (.d fr (.list ds), Γ1)) : iSeq f Γ = .val ((ds, fr), Γ1) := by unfold iSeq; rw [h1]; rfl
theorem i_seqT (h1 : f Γ = .val (.d fr (.tuple ds), Γ1)) : iSeq f Γ = .val ((ds, fr), Γ1) := by unfold iSeq; rw [h1]; rfl
theorem i_enumL (h1 : f Γ = .val (.d fr (.list ds), Γ1)) : iEnum f Γ = .val ((enumD ds, fr), Γ1) := by unfold iEnum; rw [h1]; rfl
theorem i_enumT (h1 : f Γ = .val (.d fr (.tuple ds), Γ1)) : iEnum f Γ = .val ((enumD ds, fr), Γ1) := by unfold iEnum; rw [h1]; rfl
theorem i_range1 (h1 : f Γ = .val (.d fr (.int j), Γ1)) (h2 : cRng 0 j = true) : iRange1 f Γ = .val (((rng 0 j).map PyData.int, true), Γ1) := by unfold iRange1; rw [h1, bind_val]; exact gq_of _ h2
theorem i_range2 (h1 : f Γ = .val (.d fr (.int i), Γ1)) (h3 : g Γ1 = .val (.d fr2 (.int j), Γ2)) (h2 : cRng i j = true) : iRange2 f g Γ = .val (((rng i j).map PyData.int, true), Γ2) := by unfold iRange2; rw [h1, bind_val, h3, bind_val]; exact gq_of _ h2
theorem n_lrng1 (h1 : f Γ = .val (.d fr (.int j), Γ1)) (h2 : cLrg 0 j = true) : dLrng1 f Γ = .val ((rng 0 j).map PyData.int, Γ1) := by unfold dLrng1; rw [h1, bind_val]; exact gq_of _ h2
theorem n_lrng2 (h1 : f Γ = .val (.d fr (.int i), Γ1)) (h3 : g Γ1 = .val (.d fr2 (.int j), Γ2)) (h2 : cLrg i j = true) : dLrng2 f g Γ = .val ((rng i j).map PyData.int, Γ2) := by unfold dLrng2; rw [h1, bind_val, h3, bind_val]; exact gq_of _ h2
theorem e_isi {ts : List Tn} (h1 : f Γ = .val (a, Γ1)) (h2 : rdD Γ1 a = some d) (h3 : noDct d = true) : dIsi ts f Γ = .val (.d true (.bool (ts.any fun t => tyIs d t)), Γ1) := by
  unfold dIsi; rw [h1, bind_val]; simp only [h2]; exact gq_of _ h3
theorem e_app {m : Nat} {io : Bool} (h0 : cellL Γ m = some (io, es)) (h1 : f Γ = .val (.d true d, Γ1)) (h2 : cellL Γ1 m = some (io, ds)) (h3 : ltS ds = true) : dLm m qAppend (dAc (dFrz f) dA0) Γ = .val (.d true .none, Γ1.set m (mkS io (.lst (ds ++ [d])))) := by
  unfold dLm
  rw [h0, ofO_some, bind_val, a_cons (e_frz h1) a_nil, bind_val, h2, ofO_some, bind_val]
  show ((qAppend ds [.d true d]).bind _) = _
  unfold qAppend
  simp only [h3]
  rfl
end
def W (b : DS) (Γ : List Sl) (P : Fw → List Sl → Prop) : Prop := Ok (b Γ) fun z => P z.1 z.2
section
variable {Γ Γ1 Γ2 : List Sl} {f g : DF} {b r r2 : DS} {x : DX} {n : DC} {t : DT} {fr z : Bool} {d : PyData} {P : Fw → List Sl → Prop} {m : Nat}
theorem w_nil (h : P .nx Γ) : W bNil Γ P := ok_val h
theorem w_seq (h : W b Γ fun w Γ1 => match w with
    | .nx => W r Γ1 P
    | w => P w Γ1) : W (bSeq b r) Γ P := by
  unfold W bSeq
  refine ok_bind h fun z hz => ?_
  obtain ⟨w, Γ1⟩ := z
  cases w with
  | nx => exact hz
  | bk => exact ok_val hz
  | ct => exact ok_val hz
  | rt r => exact ok_val hz
theorem w_one (h : ∃ Γ1, b Γ = .val (.nx, Γ1) ∧ W r Γ1 P) : W (bSeq b r) Γ P := by
  obtain ⟨Γ1, e, h⟩ := h
  exact w_seq ⟨(.nx, Γ1), e, h⟩
theorem w_set (h1 : f Γ = .val (.d fr d, Γ1)) (h : W r (Γ1.set m (.dat fr d)) P) : W (bSeq (bSet m f) r) Γ P := w_one ⟨_, by unfold bSet; rw [h1]; rfl, h⟩
theorem w_setC {c : Cl} (h1 : n Γ = .val (c, Γ1)) (h : W r (Γ1.set m (.own c)) P) : W (bSeq (bSetC m n) r) Γ P := w_one ⟨_, by unfold bSetC; rw [h1]; rfl, h⟩
theorem w_setX {s : Rs} (h1 : x Γ = .val (s, Γ1)) (h : W r (Γ1.set m (rsS s)) P) : W (bSeq (bSetX m x) r) Γ P := w_one ⟨_, by unfold bSetX; rw [h1]; rfl, h⟩
theorem w_setG {gg : DG} (h1 : f Γ = .val (.d fr d, Γ1)) (h2 : gg fr d Γ1 = some Γ2) (h : W r Γ2 P) : W (bSeq (bSetG gg f) r) Γ P := w_one ⟨_, by unfold bSetG; rw [h1, bind_val]; simp only; rw [h2]; rfl, h⟩
theorem w_expr {a : AV} (h1 : f Γ = .val (a, Γ1)) (h : W r Γ1 P) : W (bSeq (bExpr f) r) Γ P := w_one ⟨_, by unfold bExpr; rw [h1]; rfl, h⟩
theorem w_exprX {s : Rs} {e : PyData} (h1 : x Γ = .val (s, Γ1)) (h2 : rsF s = some e) (h : W r Γ1 P) : W (bSeq (bExprX x) r) Γ P := w_one ⟨_, by unfold bExprX; rw [h1, bind_val, h2]; rfl, h⟩
theorem w_ret (h1 : f Γ = .val (.d true d, Γ1)) (h : P (.rt (.d d)) Γ1) : W (bSeq (bRet f) r) Γ P := w_seq ⟨(.rt (.d d), Γ1), by unfold bRet; rw [h1]; rfl, h⟩
theorem w_ret0 (h : P (.rt (.d .none)) Γ) : W (bSeq bRet0 r) Γ P := w_seq ⟨(.rt (.d .none), Γ), rfl, h⟩
theorem w_retC {c : Cl} (h1 : n Γ = .val (c, Γ1)) (h : P (.rt (.c c)) Γ1) : W (bSeq (bRetC n) r) Γ P := w_seq ⟨(.rt (.c c), Γ1), by unfold bRetC; rw [h1]; rfl, h⟩
theorem w_retX {s : Rs} (h1 : x Γ = .val (s, Γ1)) (h : P (.rt s) Γ1) : W (bSeq (bRetX x) r) Γ P := w_seq ⟨(.rt s, Γ1), by unfold bRetX; rw [h1]; rfl, h⟩
theorem w_retO {c : Cl} (h1 : Γ[m]? = some (.own c)) (h : P (.rt (.c c)) (Γ.set m .un)) : W (bSeq (bRetO m) r) Γ P := w_seq ⟨(.rt (.c c), Γ.set m .un), by unfold bRetO; rw [h1], h⟩
theorem w_if {c2 : DS} (h1 : t Γ = .val (z, Γ1)) (hT : z = true → W (bSeq b r) Γ1 P) (hF : z = false → W (bSeq c2 r) Γ1 P) : W (bSeq (bIf t b c2) r) Γ P := by
  have e : bSeq (bIf t b c2) r Γ = if z then bSeq b r Γ1 else bSeq c2 r Γ1 := by
    unfold bSeq bIf
    rw [h1, bind_val]
    cases z <;> rfl
  unfold W
  rw [e]
  cases z with
  | true => exact hT rfl
  | false => exact hF rfl
theorem w_seqA (h : W (bSeq b (bSeq r r2)) Γ P) : W (bSeq (bSeq b r) r2) Γ P := by
  have e : bSeq (bSeq b r) r2 Γ = bSeq b (bSeq r r2) Γ := by
    unfold bSeq
    rw [R.bind_assoc]
    congr 1
    funext z
    obtain ⟨w, Γ1⟩ := z
    cases w <;> rfl
  unfold W
  rw [e]
  exact h
theorem w_seqN (h : W r Γ P) : W (bSeq bNil r) Γ P := h
theorem w_frz {c : Cl} (h1 : Γ[m]? = some (.own c)) (h2 : frzC c = some d) (h : W r (Γ.set m (.dat true d)) P) : W (bFrz m r) Γ P := by
  unfold W bFrz
  simp only [h1, h2]
  exact h
theorem w_inc {i j : Int} {fr2 : Bool} (h0 : Γ[m]? = some (.dat fr (.int i))) (h1 : f Γ = .val (.d fr2 (.int j), Γ1)) (h : W r (Γ1.set m (.dat true (.int (i + j)))) P) : W (bSeq (bInc m f) r) Γ P := w_one ⟨_, by unfold bInc; rw [h0]; simp only [intS]; rw [ofO_some, bind_val, h1]; rfl, h⟩
theorem w_for {is : List Nat} {gg : DG} {it : DI} {y : List PyData × Bool} (Inv : Nat → List Sl → Prop) (h1 : it Γ = .val (y, Γ1)) (h0 : Inv 0 (wipeG Γ1 is))
    (hb : ∀ i d Γ, y.1[i]? = some d → Inv i Γ → ∃ Γ1, gg y.2 d Γ = some Γ1 ∧ W b Γ1 fun w Γ2 => match w with
      | .nx => Inv (i + 1) (wipeG Γ2 is)
      | .ct => Inv (i + 1) (wipeG Γ2 is)
      | .bk => W r (wipeG Γ2 is) P
      | .rt s => P (.rt s) Γ2) (hd : ∀ Γ, Inv y.1.length Γ → W r Γ P) : W (bSeq (bFor is gg it b) r) Γ P := by
  refine w_seq ?_
  unfold W bFor
  rw [h1, bind_val]
  exact ok_loopU (Post := fun z => match z.1 with
    | .nx => W r z.2 P
    | w => P w z.2) Inv y.1 h0 (fun i d Γ hd hi => by
      obtain ⟨Γ1, e1, o⟩ := hb i d Γ hd hi
      exact ⟨Γ1, e1, o.mono fun z hz => by
        obtain ⟨w, Γ2⟩ := z
        cases w <;> exact hz⟩) hd
theorem w_while {is : List Nat} {fl : List Sl → Nat} (Inv : Nat → List Sl → Prop) (k : Nat) (hk : k < fl Γ) (h0 : Inv k (wipeG Γ is))
    (hb : ∀ n Γ, Inv n Γ → ∃ z Γ1, t Γ = .val (z, Γ1) ∧ (z = true → W b Γ1 fun w Γ2 => match w with
      | .nx => ∃ m, m < n ∧ Inv m (wipeG Γ2 is)
      | .ct => ∃ m, m < n ∧ Inv m (wipeG Γ2 is)
      | .bk => W r (wipeG Γ2 is) P
      | .rt s => P (.rt s) Γ2) ∧ (z = false → W r Γ1 P)) : W (bSeq (bWhile is fl t b) r) Γ P := by
  refine w_seq ?_
  unfold W bWhile
  refine ok_loopW (Post := fun z => match z.1 with
    | .nx => W r z.2 P
    | w => P w z.2) Inv (fun n Γ hi => ?_) (fl Γ) k Γ hk h0
  obtain ⟨z, Γ1, e, hT, hF⟩ := hb n Γ hi
  refine ⟨(z, Γ1), e, ?_⟩
  cases z with
  | true =>
    show Ok _ _
    exact (hT rfl).mono fun y hy => by
      obtain ⟨w, Γ2⟩ := y
      cases w <;> exact hy
  | false => exact hF rfl
end
theorem ok_run {n np : Nat} {b : DS} {as : List Ar} {Q : Rs × List Sl → Prop} (hl : as.length = np) (h : W b (initS n as) fun w Γ => ∃ r Z, fwR w = some r ∧ cellsAt as Γ = some Z ∧ Q (r, Z)) : Ok (runB n np b as) Q := by
  unfold runB
  have : (as.length == np) = true := by rw [hl]; exact beq_self_eq_true _
  rw [this, req_true, bind_val]
  obtain ⟨z, e, r, Z, h1, h2, h3⟩ := h
  rw [e]
  show Ok ((R.ofO (fwR z.1)).bind _) Q
  rw [h1, ofO_some, bind_val, h2]
  exact ok_val h3
local macro_rules
  | `(tactic| bv_omega) => `(tactic| with_reducible first
  | exact e_C | exact a_nil | exact k_sub | exact k_and | exact k_or | exact k_eqI | exact k_neI | exact k_I
  | apply e_I | apply e_add | apply e_neg | apply e_cmp | apply t_tst | apply t_not | apply e_not
  | apply k_mul | apply k_div | apply k_mod | apply k_pow | apply k_shl | apply k_shr
  | apply a_cons | apply n_lst | apply e_tup | apply e_ofN | apply c_l | apply x_c | apply e_B | apply n_B | apply e_isi)
local macro_rules
  | `(tactic| symm_saturate) => `(tactic| repeat' first | bv_omega | exact e_var rfl | exact e_varO rfl | exact e_varI rfl | rfl | assumption)
end PD
section
open PySem L2 PD
local macro_rules
  | `(tactic| bv_omega) => `(tactic| with_reducible first
  | exact e_C | exact a_nil | exact k_sub | exact k_and | exact k_or | exact k_eqI | exact k_neI | exact k_I
  | apply e_I | apply e_add | apply e_neg | apply e_cmp | apply t_tst | apply t_not | apply e_not
  | apply k_mul | apply k_div | apply k_mod | apply k_pow | apply k_shl | apply k_shr
  | apply a_cons | apply n_lst | apply e_tup | apply e_ofN | apply c_l | apply x_c | apply e_B | apply n_B | apply e_isi)
local macro_rules
  | `(tactic| symm_saturate) => `(tactic| repeat' first | bv_omega | exact e_var rfl | exact e_varO rfl | exact e_varI rfl | rfl | assumption)
set_option linter.all false
set_option maxRecDepth 100000
set_option autoImplicit false
namespace PD
open PySem L2
section
variable {Γ Γ1 Γ2 : List Sl} {fe : DF} {r : DS} {m : Nat} {io fr : Bool} {f : Fd} {n : Int} {P : Fw → List Sl → Prop}
end
theorem mod_64 {a M : Int} (h : 0 < M) (h2 : M < 2 ^ 64) : (a % M).natAbs < 2 ^ 64 := by
  have h3 := Int.emod_nonneg a (by omega : M ≠ 0)
  have h4 := Int.emod_lt_of_pos a h
  omega
theorem mulR {i j : Int} (h : j.natAbs < 2 ^ 64) : cMulX i j = true := by unfold cMulX; rw [decide_eq_true h]; simp
theorem mulL {i j : Int} (h : i.natAbs < 2 ^ 64) : cMulX i j = true := by unfold cMulX; rw [decide_eq_true h]; simp
theorem modP {i j : Int} (h : 0 < j) : cMod i j = true := decide_eq_true h
theorem log2_lt {n : Nat} (h : n < 2 ^ 64) : n.log2 < 9000 := by
  by_cases h0 : n = 0
  · subst h0; decide
  · have := (Nat.log2_lt h0 (k := 64)).mpr h
    omega
theorem divP {i j : Int} (h : 0 < j) (h2 : j < 2 ^ 64) : cDiv i j = true := by
  unfold cDiv
  rw [Bool.and_eq_true]
  exact ⟨decide_eq_true h, decide_eq_true (log2_lt (by omega))⟩
end PD
set_option linter.all false
set_option maxRecDepth 100000
set_option autoImplicit false
namespace PD
open PySem L2
abbrev dL (ns : List Int) : PyData := .list (ns.map PyData.int)
abbrev dT (ns : List Int) : PyData := .tuple (ns.map PyData.int)
abbrev dTT (rs : List (List Int)) : PyData := .tuple (rs.map fun r => dT r)
theorem flatI : ∀ ns : List Int, flat.flatA (ns.map PyData.int) = true
  | [] => rfl
  | n :: ns => by simp [flat.flatA, flat, flatI ns]
theorem flat_int (i : Int) : flat (.int i) = true := rfl
theorem gmap {α β : Type} {f : α → β} {xs : List α} {i : Nat} {d : β} (h : (xs.map f)[i]? = some d) : ∃ x, xs[i]? = some x ∧ d = f x := by
  rw [List.getElem?_map] at h
  cases hx : xs[i]? with
  | none => rw [hx] at h; cases h
  | some x => rw [hx] at h; cases h; exact ⟨x, rfl, rfl⟩
theorem mem_at {α : Type} {xs : List α} {i : Nat} {x : α} (h : xs[i]? = some x) : x ∈ xs := List.mem_of_getElem? h
theorem k_sorted {Γ : List Sl} {a : AV} {ns : List Int} (h : rdInts Γ a = some ns) : kSorted Γ [a] = .val ((sortI ns).map PyData.int) := by unfold kSorted; simp only [h]; rfl
theorem k_tup {Γ : List Sl} {a : AV} {ds : List PyData} {fr : Bool} (h : rdSeq Γ a = some (ds, fr)) : kTuple Γ [a] = .val (.d fr (.tuple ds)) := by unfold kTuple; simp only [h]; rfl
theorem k_list {Γ : List Sl} {a : AV} {ds : List PyData} {fr : Bool} (h : rdSeq Γ a = some (ds, fr)) (h2 : (fr || flat.flatA ds) = true) : kList Γ [a] = .val ds := by unfold kList; simp only [h]; exact gq_of _ h2
theorem ltS_of {α : Type} {xs : List α} (h : xs.length < 2 ^ 20) : ltS xs = true := by
  unfold ltS
  apply decide_eq_true
  have : (2 : Nat) ^ 20 ≤ sizeLine := by decide
  omega
theorem szB_of {α : Type} {xs : List α} (h : xs.length < 2 ^ 20) : szB xs = true := by
  unfold szB
  apply decide_eq_true
  have : (2 : Nat) ^ 20 ≤ sizeLine := by decide
  omega
def bIsIn : DS := (bSeq (bRet (dCmp kEq (dI kAnd (dI kShr (dVar 0) (dVar 1)) (dC (.int 1))) (dC (.int 1)))) bNil)
theorem isIn_u (m k : Int) (hk : 0 ≤ k) : runB 2 2 bIsIn [.d (.int m), .d (.int k)] = .val (.d (.bool (decide (Builtin.bitAnd (m / 2 ^ k.toNat) 1 = 1))), [.un, .un]) := by
  have hk : cShr m k = true := decide_eq_true hk
  refine ok_eq (ok_run rfl ?_)
  unfold bIsIn
  apply w_ret
  · symm_saturate
  exact ⟨_, _, rfl, rfl, rfl⟩
theorem enumD_at {ds : List PyData} {i : Nat} {d : PyData} (h : (enumD ds)[i]? = some d) : ∃ x, ds[i]? = some x ∧ d = .tuple [.int (i : Nat), x] := by
  unfold enumD at h
  rw [List.getElem?_mapIdx] at h
  cases hx : ds[i]? with
  | none => rw [hx] at h; cases h
  | some x => rw [hx] at h; cases h; exact ⟨x, rfl, rfl⟩
theorem enumD_len (ds : List PyData) : (enumD ds).length = ds.length := by unfold enumD; simp
theorem take_step {α : Type} {xs : List α} {i : Nat} {x : α} (h : xs[i]? = some x) : xs.take (i + 1) = xs.take i ++ [x] := by
  rw [List.take_add_one, h]; rfl
end PD
set_option linter.all false
set_option maxRecDepth 100000
set_option autoImplicit false
namespace PD
open PySem L2
theorem band_pos {x y : Int} (hx : 0 ≤ x) (hy : 0 ≤ y) : Builtin.bitAnd x y = ((x.toNat &&& y.toNat : Nat) : Int) := by
  unfold Builtin.bitAnd
  rw [decide_eq_true hx, decide_eq_true hy]
theorem bor_pos {x y : Int} (hx : 0 ≤ x) (hy : 0 ≤ y) : Builtin.bitOr x y = ((x.toNat ||| y.toNat : Nat) : Int) := bitOr_nn hx hy
structure Msk (k : Nat) (m : Int) (S : Nat → Prop) : Prop where
  nn : 0 ≤ m
  lt : m.toNat < 2 ^ k
  bit : ∀ j, m.toNat.testBit j = true ↔ S j
theorem Msk.iff {k : Nat} {m : Int} {S T : Nat → Prop} (h : Msk k m S) (e : ∀ j, S j ↔ T j) : Msk k m T := ⟨h.nn, h.lt, fun j => (h.bit j).trans (e j)⟩
theorem msk_zero (k : Nat) : Msk k 0 (fun _ => False) := ⟨by decide, by simp; exact Nat.two_pow_pos k, fun j => by simp⟩
theorem msk_one {k j : Nat} (h : j < k) : Msk k ((1 : Int) * 2 ^ j) (fun i => i = j) := by
  have e : ((1 : Int) * 2 ^ j) = ((2 ^ j : Nat) : Int) := by rw [Int.one_mul]; simp
  rw [e]
  refine ⟨Int.natCast_nonneg _, by rw [Int.toNat_natCast]; exact Nat.pow_lt_pow_right (by decide) h, fun i => ?_⟩
  rw [Int.toNat_natCast, Nat.testBit_two_pow]
  simp only [decide_eq_true_eq]
  exact eq_comm
theorem msk_or {k : Nat} {a b : Int} {S T : Nat → Prop} (ha : Msk k a S) (hb : Msk k b T) : Msk k (Builtin.bitOr a b) (fun j => S j ∨ T j) := by
  rw [bor_pos ha.nn hb.nn]
  refine ⟨Int.natCast_nonneg _, by rw [Int.toNat_natCast]; exact Nat.or_lt_two_pow ha.lt hb.lt, fun j => ?_⟩
  rw [Int.toNat_natCast, Nat.testBit_or, Bool.or_eq_true, ha.bit, hb.bit]
theorem msk_and {k k' : Nat} {a b : Int} {S T : Nat → Prop} (ha : Msk k a S) (hb : Msk k' b T) : Msk k (Builtin.bitAnd a b) (fun j => S j ∧ T j) := by
  rw [band_pos ha.nn hb.nn]
  refine ⟨Int.natCast_nonneg _, ?_, fun j => ?_⟩
  · rw [Int.toNat_natCast]
    exact Nat.lt_of_le_of_lt Nat.and_le_left ha.lt
  rw [Int.toNat_natCast, Nat.testBit_and, Bool.and_eq_true, ha.bit, hb.bit]
theorem msk_ext {k k' : Nat} {a b : Int} {S : Nat → Prop} (ha : Msk k a S) (hb : Msk k' b S) : a = b := by
  have h1 := ha.nn
  have h2 := hb.nn
  have : a.toNat = b.toNat := Nat.eq_of_testBit_eq fun i => by
    cases h : a.toNat.testBit i with
    | true => exact ((hb.bit i).mpr ((ha.bit i).mp h)).symm
    | false =>
      cases h' : b.toNat.testBit i with
      | true => rw [(ha.bit i).mpr ((hb.bit i).mp h')] at h; cases h
      | false => rfl
  omega
theorem msk_none {k : Nat} {a : Int} {S : Nat → Prop} (ha : Msk k a S) : a = 0 ↔ ∀ j, ¬ S j := by
  constructor
  · rintro rfl j hj
    have := (ha.bit j).mpr hj
    simp at this
  · intro h
    exact msk_ext (ha.iff fun j => ⟨fun z => h j z, False.elim⟩) (msk_zero k)
def Rise (xs : List Int) (S : Nat → Prop) : Prop := xs.Pairwise (· < ·) ∧ ∀ y : Int, y ∈ xs ↔ ∃ j : Nat, S j ∧ y = j
theorem Rise.ext {xs ys : List Int} {S : Nat → Prop} (h : Rise xs S) (h' : Rise ys S) : xs = ys := rise_ext h.1 h'.1 fun k => (h.2 k).trans (h'.2 k).symm
theorem Rise.nil {xs : List Int} {S : Nat → Prop} (h : Rise xs S) : xs = [] ↔ ∀ j, ¬ S j := by
  constructor
  · rintro rfl j hj
    exact absurd ((h.2 j).mpr ⟨j, hj, rfl⟩) (by simp)
  · intro z
    cases hx : xs with
    | nil => rfl
    | cons y ys =>
      obtain ⟨j, h1, _⟩ := (h.2 y).mp (by rw [hx]; simp)
      exact absurd h1 (z j)
def NetOk (net : List (List Int)) : Prop := ∀ (k : Nat) (row : List Int), net[k]? = some row → (∀ e ∈ row, 0 ≤ e ∧ e < (k : Int)) ∧ row.Pairwise (· < ·)
inductive Anc (net : List (List Int)) : Nat → Nat → Prop
  | rf (i : Nat) : Anc net i i
  | st {i k j : Nat} {row : List Int} : net[i]? = some row → ((k : Nat) : Int) ∈ row → Anc net k j → Anc net i j
theorem anc_iff {net : List (List Int)} {i j : Nat} {row : List Int} (h : net[i]? = some row) : Anc net i j ↔ j = i ∨ ∃ k : Nat, ((k : Nat) : Int) ∈ row ∧ Anc net k j := by
  constructor
  · intro a
    cases a with
    | rf => exact .inl rfl
    | st h1 h2 h3 => rw [h] at h1; cases h1; exact .inr ⟨_, h2, h3⟩
  · rintro (rfl | ⟨k, h2, h3⟩)
    · exact .rf _
    · exact .st h h2 h3
def RowOk (n : Nat) (row : List Bool) (S : Nat → Prop) : Prop := row.length = n ∧ ∀ (j : Nat) (b : Bool), row[j]? = some b → (b = true ↔ S j)
theorem RowOk.iff {n : Nat} {row : List Bool} {S T : Nat → Prop} (h : RowOk n row S) (e : ∀ j, S j ↔ T j) : RowOk n row T := ⟨h.1, fun j b z => (h.2 j b z).trans (e j)⟩
theorem RowOk.at {n : Nat} {row : List Bool} {S : Nat → Prop} (h : RowOk n row S) {j : Nat} (hj : j < n) : ∃ b, row[j]? = some b ∧ (b = true ↔ S j) := by
  have : j < row.length := by rw [h.1]; exact hj
  exact ⟨row[j], List.getElem?_eq_getElem this, h.2 j _ (List.getElem?_eq_getElem this)⟩
theorem any_int (x : Int) (xs : List Int) : ((xs.map PyData.int).any fun z => PyData.eqv z (.int x)) = decide (x ∈ xs) := by
  induction xs with
  | nil => simp
  | cons y ys ih =>
    rw [List.map_cons, List.any_cons, ih, eqt_int.eq]
    by_cases h : y = x
    · simp [h]
    · have h2 : ¬ x = y := fun e => h e.symm
      simp [h, h2]
theorem sortI_mem {x : Int} {xs : List Int} : x ∈ sortI xs ↔ x ∈ xs := (sortI_perm xs).mem_iff
theorem cShl_of {j : Int} (h0 : 0 ≤ j) (h : j < 100000) : cShl 1 j = true := by
  unfold cShl
  rw [decide_eq_true h0, Bool.true_and]
  refine decide_eq_true ?_
  have : Builtin.Int.intBits 1 = 1 := by decide
  rw [this]
  omega
theorem isIn_msk {n : Nat} {b : Int} {S : Nat → Prop} (h : Msk n b S) {j : Int} (h0 : 0 ≤ j) : (Builtin.bitAnd (b / 2 ^ j.toNat) 1 = 1) ↔ S j.toNat := by
  rw [← h.bit j.toNat]
  obtain ⟨k, rfl⟩ : ∃ k : Nat, j = k := ⟨j.toNat, by omega⟩
  obtain ⟨m, rfl⟩ : ∃ m : Nat, b = m := ⟨b.toNat, by have := h.nn; omega⟩
  simp only [Int.toNat_natCast]
  have e : ((m : Int) / 2 ^ k) = ((m / 2 ^ k : Nat) : Int) := by simp
  rw [e, band_pos (Int.natCast_nonneg _) (by decide)]
  simp only [Int.toNat_natCast]
  rw [show ((1 : Int).toNat) = 1 from rfl, Nat.and_one_is_mod, Nat.testBit_eq_decide_div_mod_eq]
  simp
  omega
def bBitsOf : DS := (bSeq (bSetX 1 (xC (nL (dLst dA0)))) (bSeq (bFor [2, 3, 4, 5] (gT2 (gN 2) (gN 3)) (iEnum (dVar 0)) (bSeq (bSet 4 (dI kShl (dC (.int 1)) (dVar 2))) (bSeq (bFor [5] (gN 5) (iSeq (dVar 3)) (bSeq (bSet 4 (dI kOr (dVar 4) (dIxB (dVar 1) (dVar 5)))) bNil)) (bSeq (bExpr (dLm 1 qAppend (dAc (dFrz (dVar 4)) dA0))) bNil)))) (bSeq (bRetO 1) bNil)))
def BitsOk (net : List (List Int)) (bs : List Int) : Prop := bs.length = net.length ∧ ∀ (i : Nat) (b : Int), bs[i]? = some b → Msk net.length b (Anc net i)
theorem bitsOf_u (net : List (List Int)) (hN : NetOk net) (hn : net.length ≤ 1000) : ∃ bs, BitsOk net bs ∧ runB 6 1 bBitsOf [.d (dTT net)] = .val (.c (.lst (bs.map PyData.int)), [.un]) := by
  have key : Ok (runB 6 1 bBitsOf [.d (dTT net)]) fun z => ∃ bs, BitsOk net bs ∧ z = (.c (.lst (bs.map PyData.int)), [.un]) := by
    refine ok_run rfl ?_
    unfold bBitsOf
    apply w_setX
    · exact x_c (c_l (n_lst a_nil rfl rfl))
    refine w_for (y := (enumD (net.map fun r => dT r), false)) (Γ1 := [.dat false (dTT net), .own (.lst []), .un, .un, .un, .un]) (fun i Γ => ∃ bs : List Int, Γ = [.dat false (dTT net), .own (.lst (bs.map PyData.int)), .un, .un, .un, .un] ∧ bs.length = i ∧ ∀ (i : Nat) (b : Int), bs[i]? = some b → Msk net.length b (Anc net i)) ?_ ⟨[], rfl, rfl, fun i b z => by simp at z⟩ ?_ ?_
    · exact i_enumT (e_var rfl)
    · rintro i d Γ hd ⟨bs, rfl, hbl, hbs⟩
      obtain ⟨x, hx, rfl⟩ := enumD_at hd
      obtain ⟨row, hr, rfl⟩ := gmap hx
      obtain ⟨r1, r2⟩ := hN i row hr
      have hi : i < net.length := (List.getElem?_eq_some_iff.mp hr).1
      refine ⟨_, rfl, ?_⟩
      apply w_set
      · apply e_I
        · exact e_C
        · exact e_var rfl
        · exact k_shl (cShl_of (by omega) (by omega))
      refine w_for (y := (row.map PyData.int, false)) (Γ1 := [.dat false (dTT net), .own (.lst (bs.map PyData.int)), .dat false (.int (i : Nat)), .dat false (dT row), .dat true (.int (1 * 2 ^ ((i : Nat) : Int).toNat)), .un]) (fun k Γ => ∃ t : Int, Γ = [.dat false (dTT net), .own (.lst (bs.map PyData.int)), .dat false (.int (i : Nat)), .dat false (dT row), .dat true (.int t), .un] ∧ Msk net.length t (fun j => j = i ∨ ∃ m : Nat, (m : Int) ∈ row.take k ∧ Anc net m j)) ?_ ⟨_, rfl, ?_⟩ ?_ ?_
      · exact i_seqT (e_var rfl)
      · rw [Int.toNat_natCast]
        exact (msk_one hi).iff fun j => by simp
      · rintro k d Γ hd ⟨t, rfl, ht⟩
        obtain ⟨y, hy, rfl⟩ := gmap hd
        obtain ⟨y0, y1⟩ := r1 y (mem_at hy)
        obtain ⟨b, hb⟩ : ∃ b, bs[y.toNat]? = some b := ⟨_, List.getElem?_eq_getElem (by omega)⟩
        refine ⟨_, rfl, ?_⟩
        apply w_set
        · apply e_I
          · exact e_var rfl
          · apply e_ixS
            · exact e_varO rfl
            · exact e_var rfl
            · rfl
            · have e : y = ((y.toNat : Nat) : Int) := by omega
              rw [e]
              exact atI_nat (by rw [List.getElem?_map, hb]; rfl)
          · exact k_or
        refine w_nil ⟨_, rfl, (msk_or ht (hbs _ _ hb)).iff fun j => ?_⟩
        rw [take_step hy]
        constructor
        · rintro ((z | ⟨k, k1, k2⟩) | z)
          · exact .inl z
          · exact .inr ⟨k, by simp [k1], k2⟩
          · exact .inr ⟨y.toNat, by simp; right; omega, z⟩
        · rintro (z | ⟨k, k1, k2⟩)
          · exact .inl (.inl z)
          · rcases List.mem_append.mp k1 with q | q
            · exact .inl (.inr ⟨k, q, k2⟩)
            · simp at q
              refine .inr ?_
              have : k = y.toNat := by omega
              rw [← this]; exact k2
      · rintro Γ ⟨t, rfl, ht⟩
        have ht : Msk net.length t (Anc net i) := ht.iff fun j => by
          show (j = i ∨ ∃ m : Nat, (m : Int) ∈ row.take (row.map PyData.int).length ∧ Anc net m j) ↔ _
          rw [List.length_map, List.take_length]
          exact (anc_iff hr).symm
        apply w_expr
        · apply e_app
          · rfl
          · exact e_var rfl
          · rfl
          · exact ltS_of (by rw [List.length_map]; omega)
        refine w_nil ⟨bs ++ [t], ?_, by simp [hbl], fun k c z => ?_⟩
        · rw [List.map_append]; rfl
        · by_cases hk : k < bs.length
          · rw [List.getElem?_append_left hk] at z
            exact hbs k c z
          · have hk2 : k = bs.length := by
              have := (List.getElem?_eq_some_iff.mp z).1
              simp at this
              omega
            subst hk2
            simp at z
            subst z
            rw [hbl]
            exact ht
    · rintro Γ ⟨bs, rfl, hbl, hbs⟩
      apply w_retO
      · rfl
      refine ⟨_, _, rfl, rfl, bs, ⟨?_, hbs⟩, rfl⟩
      rw [hbl]
      show (enumD (net.map fun r => dT r)).length = _
      rw [enumD_len, List.length_map]
  obtain ⟨z, e, bs, h, rfl⟩ := key
  exact ⟨bs, h, e⟩
end PD
set_option linter.all false
set_option maxRecDepth 100000
set_option autoImplicit false
namespace PD
open PySem L2
theorem n_comp {α : Type} {enc : α → PyData} (xs : List α) (p : α → Bool) (v : α → PyData) {vs : List Nat} {g : DG} {it : DI} {t : DT} {e : DF} {Γ Γ1 Γ0 : List Sl} {fr : Bool} (h1 : it Γ = .val ((xs.map enc, fr), Γ1)) (hs : xs.length < 2 ^ 20) (h0 : wipeG Γ1 vs = Γ0)
    (hb : ∀ x ∈ xs, ∃ Γ2, g fr (enc x) Γ0 = some Γ2 ∧ wipeG Γ2 vs = Γ0 ∧ t Γ2 = .val (p x, Γ2) ∧ (p x = true → e Γ2 = .val (.d true (v x), Γ2))) : nComp vs g it t e Γ = .val ((xs.filter p).map v, Γ0) := by
  unfold nComp
  rw [h1, bind_val]
  have : szB (xs.map enc) = true := szB_of (by rw [List.length_map]; exact hs)
  show (R.req (szB (xs.map enc))).bind _ = _
  rw [this, req_true, bind_val]
  refine ok_eq (ok_compU (fun i out Γ => Γ = Γ0 ∧ out = ((xs.take i).filter p).map v) (xs.map enc) ⟨h0, by simp⟩ (fun i d out Γ hd hI => ?_) fun out Γ hI => ?_)
  · obtain ⟨rfl, rfl⟩ := hI
    obtain ⟨x, hx, rfl⟩ := gmap hd
    obtain ⟨Γ2, q1, q2, q3, q4⟩ := hb x (mem_at hx)
    refine ⟨Γ2, q1, ok_of q3 ?_⟩
    show if p x = true then _ else _
    by_cases hp : p x = true
    · rw [if_pos hp]
      refine ok_of (q4 hp) ⟨v x, rfl, q2, ?_⟩
      rw [take_step hx, List.filter_append, List.map_append]
      simp [hp]
    · rw [if_neg hp]
      refine ⟨q2, ?_⟩
      rw [take_step hx, List.filter_append, List.map_append]
      simp [hp]
  · obtain ⟨rfl, rfl⟩ := hI
    show (_, _) = (_, _)
    rw [List.length_map, List.take_length]
theorem k_ninI {Γ : List Sl} {fr fr2 : Bool} (x : Int) (ns : List Int) : kNinB Γ (.d fr (.int x)) (.d fr2 (dL ns)) = .val (!decide (x ∈ ns)) := by
  unfold kNinB kInB dicA kIn
  simp only [rdD]
  rw [eqt_int.sh (by decide) x, (eqt_list eqt_int).sh (by decide) ns, any_int]
  rfl
def inb (b one : Int) : Bool := decide (Builtin.bitAnd (b / 2 ^ one.toNat) 1 = 1)
def uIsIn : List Ar → R (Rs × List Sl) := runB 2 2 bIsIn
def optI : Option Int → PyData
  | none => .none
  | some i => .int i
def BestAt (L : Nat → Int) (barred : List Int) (n : Nat) (best : Option Int) (most : Int) : Prop := match best with
  | none => most = 0 ∧ ∀ k : Nat, k < n → ((k : Nat) : Int) ∉ barred → L k ≤ 0
  | some m => ∃ j : Nat, m = j ∧ j < n ∧ ((j : Nat) : Int) ∉ barred ∧ most = L j ∧ 0 < L j ∧ (∀ k : Nat, k < n → ((k : Nat) : Int) ∉ barred → L k ≤ L j) ∧ ∀ k : Nat, k < j → ((k : Nat) : Int) ∉ barred → L k < L j
theorem BestAt.nn {L : Nat → Int} {barred : List Int} {n : Nat} {best : Option Int} {most : Int} (h : BestAt L barred n best most) : 0 ≤ most := by
  cases best with
  | none => have := h.1; omega
  | some m => obtain ⟨j, _, _, _, h1, h2, _⟩ := h; omega
theorem BestAt.more {L : Nat → Int} {barred : List Int} {n : Nat} {best : Option Int} {most : Int} (h : BestAt L barred n best most) (hb : ((n : Nat) : Int) ∉ barred) (hs : most < L n) : BestAt L barred (n + 1) (some (n : Int)) (L n) := by
  have nn := h.nn
  have old : ∀ k : Nat, k < n → ((k : Nat) : Int) ∉ barred → L k ≤ most := by
    cases best with
    | none => obtain ⟨h1, h2⟩ := h; intro k hk hb; have := h2 k hk hb; omega
    | some m => obtain ⟨j, e1, e2, e3, e4, e5, e6, e7⟩ := h; intro k hk hb; rw [e4]; exact e6 k hk hb
  refine ⟨n, rfl, by omega, hb, rfl, by omega, fun k hk hb => ?_, fun k hk hb => ?_⟩
  · by_cases e : k = n
    · subst e; omega
    · have := old k (by omega) hb; omega
  · have := old k hk hb; omega
theorem rng_at {j : Int} {i : Nat} {x : Int} (h : (rng 0 j)[i]? = some x) : x = (i : Nat) ∧ (i : Int) < j := by
  unfold rng at h
  obtain ⟨k, hk, rfl⟩ := gmap h
  rw [List.getElem?_range (by
    have := (List.getElem?_eq_some_iff.mp hk).1
    simpa using this)] at hk
  cases hk
  have := (List.getElem?_eq_some_iff.mp h).1
  simp at this
  omega
theorem rng_len (i j : Int) : (rng i j).length = (j - i).toNat := by unfold rng; simp
theorem cRng_of {i j : Int} (h1 : -(2 ^ 62) ≤ i) (h2 : i < 2 ^ 62) (h3 : -(2 ^ 62) ≤ j) (h4 : j < 2 ^ 62) : cRng i j = true := decide_eq_true ⟨h1, h2, h3, h4⟩
end PD
set_option linter.all false
set_option maxRecDepth 100000
set_option autoImplicit false
namespace PD
open PySem L2
theorem e_frzT {Γ Γ1 : List Sl} {f : DF} {fr : Bool} {d : PyData} (h1 : f Γ = .val (.d fr d, Γ1)) (h2 : flat d = true) : dFrz f Γ = .val (.d true d, Γ1) := by
  have := e_frzD h1
  rw [h2, Bool.or_true] at this
  exact this
theorem x_callE {Γ Γ1 Γ2 : List Sl} {k : DA} {as : List AV} {ds : List PyData} {m : List Ar → R (Rs × List Sl)} {dds : List PyData} {r : Rs} {Z : List Sl} {p q : Nat} {ic : Bool × Cl} {cl : Cl} (h1 : k Γ = .val (as, Γ1)) (h2 : pickC p as = some q) (h3 : cellAt Γ1 q = some ic) (h4 : rdDs Γ1 (some q) (as.eraseIdx p) = some ds) (h5 : ic.2.fl = true) (h6 : m (insC p ic.2 (ds ++ dds)) = .val (r, Z)) (h7 : ioAt p Z = some cl) (h8 : Γ1.set q (mkS ic.1 cl) = Γ2) :
    xCallC m p dds k Γ = .val (r, Γ2) := by rw [x_callC h1 h2 h3 h4 h5 h6 h7, h8]
local macro_rules
  | `(tactic| apply_mod_cast $h) => `(tactic| (apply e_xd; apply x_callE; (· symm_saturate); (· rfl); (· rfl); (· rfl); (· rfl); (· exact $h); (· rfl); (· rfl)))
end PD
section
open PySem L2 PD
local macro_rules
  | `(tactic| apply_mod_cast $h) => `(tactic| (apply e_xd; apply x_callE; (· symm_saturate); (· rfl); (· rfl); (· rfl); (· rfl); (· exact $h); (· rfl); (· rfl)))
set_option linter.all false
set_option maxRecDepth 100000
set_option autoImplicit false
namespace PD
open PySem L2
end PD
set_option linter.all false
set_option maxRecDepth 100000
set_option autoImplicit false
namespace PD
open PySem L2
theorem w_put {Γ Γ1 Γ2 : List Sl} {fe fi : DF} {r : DS} {m : Nat} {v kk : PyData} {fr : Bool} {c0 c : Bool × Cl} {c' : Cl} {P : Fw → List Sl → Prop} (h1 : dFrz fe Γ = .val (.d true v, Γ1)) (h2 : cellC Γ1 m = some c0) (h3 : fi Γ1 = .val (.d fr kk, Γ2)) (h4 : cellC Γ2 m = some c) (h5 : putC c.2 kk v = some c') (h : W r (Γ2.set m (mkS c.1 c')) P) : W (bSeq (bPut m fe fi) r) Γ P := w_one ⟨_, by
  unfold bPut
  rw [h1, bind_val, h2, ofO_some, bind_val, h3, bind_val, h4, ofO_some, bind_val]
  simp only [h5]
  rfl, h⟩
theorem ixN_nat {n j : Nat} (h : j < n) : ixN n (j : Int) = some j := by
  unfold ixN
  rw [if_pos (by omega), if_pos (by omega)]
  simp
theorem at_nat {α : Type} {xs : List α} {f : α → PyData} {j : Nat} {x : α} (h : xs[j]? = some x) : atI (xs.map f) (j : Int) = some (f x) := atI_nat (by rw [List.getElem?_map, h]; rfl)
end PD
set_option linter.all false
set_option maxRecDepth 100000
set_option autoImplicit false
namespace PD
open PySem L2
theorem filt_sum (p : Int → Bool) : ∀ ms : List Int, (ms.filter p).length + (ms.filter fun x => !p x).length = ms.length
  | [] => rfl
  | x :: ms => by
    have := filt_sum p ms
    cases h : p x <;> simp [h] <;> omega
end PD
set_option linter.all false
set_option maxRecDepth 100000
set_option autoImplicit false
namespace PD
open PySem L2
end PD
set_option linter.all false
set_option autoImplicit false
namespace PD
open PySem L2
def uBitsOf : List Ar → R (Rs × List Sl) := runB 6 1 bBitsOf
end PD
set_option linter.all false
set_option maxRecDepth 100000
set_option autoImplicit false
namespace PD
open PySem L2
section
variable {Γ Γ1 Γ2 Γ3 : List Sl} {f g h : DF} {k : DA} {n : DN} {c : DC} {x : DX} {t t2 : DT} {fr fr2 z z2 : Bool} {d : PyData} {i j : Int} {ds es : List PyData} {a b : AV} {as : List AV} {P : Fw → List Sl → Prop} {r : DS} {m : Nat}
theorem e_x {s : Rs} (h1 : x Γ = .val (s, Γ1)) (h2 : rsF s = some d) : eX x Γ = .val (.d true d, Γ1) := by
  cases s with
  | d y => cases h2; exact e_xd h1
  | c y =>
    have h2 : frzC y = some d := h2
    unfold eX; rw [h1, bind_val]
    show ((R.ofO (frzC y)).bind fun e => R.val (AV.d true e, Γ1)) = _
    rw [h2]; rfl
theorem w_ifN {b c2 : DS} (h1 : t Γ = .val (z, Γ1)) (hz : z = false) (h : W (bSeq c2 r) Γ1 P) : W (bSeq (bIf t b c2) r) Γ P := w_if h1 (fun e => by rw [hz] at e; cases e) fun _ => h
theorem w_ifY {b c2 : DS} (h1 : t Γ = .val (z, Γ1)) (hz : z = true) (h : W (bSeq b r) Γ1 P) : W (bSeq (bIf t b c2) r) Γ P := w_if h1 (fun _ => h) (fun e => by rw [hz] at e; cases e)
theorem w_ifB {b c2 : DS} (h1 : t Γ = .val (z, Γ1)) (hT : z = true → W (bSeq b r) Γ1 P) (hF : z = false → W (bSeq c2 r) Γ1 P) : W (bSeq (bIf t b c2) r) Γ P := w_if h1 hT hF
theorem w_ifJ {b c2 : DS} {S : Type} (Rel : S → Prop) (sh : S → List Sl) (h1 : t Γ = .val (z, Γ1)) (hT : z = true → W b Γ1 fun w Γ2 => match w with
      | .nx => ∃ s, Γ2 = sh s ∧ Rel s
      | w => P w Γ2) (hF : z = false → W c2 Γ1 fun w Γ2 => match w with
      | .nx => ∃ s, Γ2 = sh s ∧ Rel s
      | w => P w Γ2) (h : ∀ s, Rel s → W r (sh s) P) : W (bSeq (bIf t b c2) r) Γ P := by
  refine w_if h1 (fun e => w_seq ((hT e).mono fun z hz => ?_)) (fun e => w_seq ((hF e).mono fun z hz => ?_))
  · obtain ⟨w, Γ2⟩ := z
    cases w with
    | nx => obtain ⟨s, h2, h3⟩ := hz; have h2 : Γ2 = sh s := h2; subst h2; exact h s h3
    | bk => exact hz
    | ct => exact hz
    | rt q => exact hz
  · obtain ⟨w, Γ2⟩ := z
    cases w with
    | nx => obtain ⟨s, h2, h3⟩ := hz; have h2 : Γ2 = sh s := h2; subst h2; exact h s h3
    | bk => exact hz
    | ct => exact hz
    | rt q => exact hz
theorem w_forL {α : Type} {enc : α → PyData} {is : List Nat} {gg : DG} {it : DI} {b : DS} (xs : List α) {S : Type} (Rel : Nat → S → Prop) (sh : S → List Sl) (s0 : S) (h1 : it Γ = .val ((xs.map enc, fr), Γ1)) (h0 : wipeG Γ1 is = sh s0) (hr : Rel 0 s0)
    (hb : ∀ (i : Nat) (x : α) (s : S), xs[i]? = some x → Rel i s → ∃ Γ1, gg fr (enc x) (sh s) = some Γ1 ∧ W b Γ1 fun w Γ2 => match w with
      | .nx => ∃ s', wipeG Γ2 is = sh s' ∧ Rel (i + 1) s'
      | .ct => ∃ s', wipeG Γ2 is = sh s' ∧ Rel (i + 1) s'
      | .bk => W r (wipeG Γ2 is) P
      | .rt q => P (.rt q) Γ2) (hd : ∀ s, Rel xs.length s → W r (sh s) P) : W (bSeq (bFor is gg it b) r) Γ P := by
  refine w_for (fun i Γ => ∃ s, Γ = sh s ∧ Rel i s) h1 ⟨s0, h0, hr⟩ ?_ ?_
  · rintro i d Γ hd ⟨s, rfl, hs⟩
    obtain ⟨x, hx, rfl⟩ := gmap hd
    exact hb i x s hx hs
  · rintro Γ ⟨s, rfl, hs⟩
    rw [List.length_map] at hs
    exact hd s hs
theorem w_forR {is : List Nat} {gg : DG} {it : DI} {b : DS} {N : Int} {S : Type} (Rel : Nat → S → Prop) (sh : S → List Sl) (s0 : S) (h1 : it Γ = .val (((rng 0 N).map PyData.int, fr), Γ1)) (h0 : wipeG Γ1 is = sh s0) (hr : Rel 0 s0)
    (hb : ∀ (i : Nat) (s : S), (i : Int) < N → Rel i s → ∃ Γ1, gg fr (.int (i : Nat)) (sh s) = some Γ1 ∧ W b Γ1 fun w Γ2 => match w with
      | .nx => ∃ s', wipeG Γ2 is = sh s' ∧ Rel (i + 1) s'
      | .ct => ∃ s', wipeG Γ2 is = sh s' ∧ Rel (i + 1) s'
      | .bk => W r (wipeG Γ2 is) P
      | .rt q => P (.rt q) Γ2) (hd : ∀ s, Rel N.toNat s → W r (sh s) P) : W (bSeq (bFor is gg it b) r) Γ P := by
  refine w_forL (rng 0 N) Rel sh s0 h1 h0 hr ?_ ?_
  · intro i x s hx hs
    obtain ⟨rfl, hi⟩ := rng_at hx
    exact hb i s hi hs
  · intro s hs
    rw [rng_len] at hs
    exact hd s (by simpa using hs)
theorem w_forE {α : Type} {enc : α → PyData} {is : List Nat} {gg : DG} {it : DI} {b : DS} (xs : List α) {S : Type} (Rel : Nat → S → Prop) (sh : S → List Sl) (s0 : S) (h1 : it Γ = .val ((enumD (xs.map enc), fr), Γ1)) (h0 : wipeG Γ1 is = sh s0) (hr : Rel 0 s0)
    (hb : ∀ (i : Nat) (x : α) (s : S), xs[i]? = some x → Rel i s → ∃ Γ1, gg fr (.tuple [.int (i : Nat), enc x]) (sh s) = some Γ1 ∧ W b Γ1 fun w Γ2 => match w with
      | .nx => ∃ s', wipeG Γ2 is = sh s' ∧ Rel (i + 1) s'
      | .ct => ∃ s', wipeG Γ2 is = sh s' ∧ Rel (i + 1) s'
      | .bk => W r (wipeG Γ2 is) P
      | .rt q => P (.rt q) Γ2) (hd : ∀ s, Rel xs.length s → W r (sh s) P) : W (bSeq (bFor is gg it b) r) Γ P := by
  refine w_for (fun i Γ => ∃ s, Γ = sh s ∧ Rel i s) h1 ⟨s0, h0, hr⟩ ?_ ?_
  · rintro i d Γ hd ⟨s, rfl, hs⟩
    obtain ⟨y, hy, rfl⟩ := enumD_at hd
    obtain ⟨x, hx, rfl⟩ := gmap hy
    exact hb i x s hx hs
  · rintro Γ ⟨s, rfl, hs⟩
    rw [enumD_len, List.length_map] at hs
    exact hd s hs
theorem w_whileS {is : List Nat} {fl : List Sl → Nat} {b : DS} {S : Type} (Rel : S → Prop) (ms : S → Nat) (sh : S → List Sl) (s0 : S) (h0 : wipeG Γ is = sh s0) (hr : Rel s0) (hk : ms s0 < fl Γ)
    (hb : ∀ s, Rel s → ∃ z Γ1, t (sh s) = .val (z, Γ1) ∧ (z = true → W b Γ1 fun w Γ2 => match w with
      | .nx => ∃ s', wipeG Γ2 is = sh s' ∧ Rel s' ∧ ms s' < ms s
      | .ct => ∃ s', wipeG Γ2 is = sh s' ∧ Rel s' ∧ ms s' < ms s
      | .bk => W r (wipeG Γ2 is) P
      | .rt q => P (.rt q) Γ2) ∧ (z = false → W r Γ1 P)) : W (bSeq (bWhile is fl t b) r) Γ P := by
  refine w_while (fun n Γ => ∃ s, Γ = sh s ∧ Rel s ∧ ms s = n) (ms s0) hk ⟨s0, h0, hr, rfl⟩ ?_
  rintro n Γ ⟨s, rfl, hs, rfl⟩
  obtain ⟨z, Γ1, e, hT, hF⟩ := hb s hs
  refine ⟨z, Γ1, e, fun hz => ?_, hF⟩
  refine (hT hz).mono fun y hy => ?_
  obtain ⟨w, Γ2⟩ := y
  cases w with
  | nx => obtain ⟨s', h1, h2, h3⟩ := hy; exact ⟨_, h3, s', h1, h2, rfl⟩
  | ct => obtain ⟨s', h1, h2, h3⟩ := hy; exact ⟨_, h3, s', h1, h2, rfl⟩
  | bk => exact hy
  | rt q => exact hy
theorem k_lenI {α : Type} {enc : α → PyData} {xs : List α} (h : rdD Γ a = some (.list (xs.map enc))) : kLen Γ [a] = .val (.d true (.int (xs.length : Nat))) := by rw [k_lenL h, List.length_map]
theorem k_lenJ {α : Type} {enc : α → PyData} {xs : List α} (h : rdD Γ a = some (.tuple (xs.map enc))) : kLen Γ [a] = .val (.d true (.int (xs.length : Nat))) := by rw [k_lenT h, List.length_map]
theorem k_mx2 : kMax2 Γ [.d fr (.int i), .d fr2 (.int j)] = .val (.d true (.int (max2 i j))) := rfl
theorem k_mn2 : kMin2 Γ [.d fr (.int i), .d fr2 (.int j)] = .val (.d true (.int (min2 i j))) := rfl
end
end PD
set_option linter.all false
set_option maxRecDepth 100000
set_option autoImplicit false
namespace PD
open PySem L2
theorem filt_yes {α : Type} (xs : List α) : xs.filter (fun _ => true) = xs := List.filter_eq_self.mpr fun _ _ => rfl
theorem n_map {α : Type} {enc : α → PyData} (xs : List α) (v : α → PyData) {vs : List Nat} {g : DG} {it : DI} {e : DF} {Γ Γ1 Γ0 : List Sl} {fr : Bool} (h1 : it Γ = .val ((xs.map enc, fr), Γ1)) (hs : xs.length < 2 ^ 20) (h0 : wipeG Γ1 vs = Γ0)
    (hb : ∀ x ∈ xs, ∃ Γ2, g fr (enc x) Γ0 = some Γ2 ∧ wipeG Γ2 vs = Γ0 ∧ e Γ2 = .val (.d true (v x), Γ2)) : nComp vs g it tYes e Γ = .val (xs.map v, Γ0) := by
  have := n_comp xs (fun _ => true) v h1 hs h0 (t := tYes) (e := e) fun x hx => by
    obtain ⟨Γ2, q1, q2, q3⟩ := hb x hx
    exact ⟨Γ2, q1, q2, rfl, fun _ => q3⟩
  rw [filt_yes] at this
  exact this
theorem n_filt {α : Type} {enc : α → PyData} (xs : List α) (p : α → Bool) {vs : List Nat} {g : DG} {it : DI} {t : DT} {e : DF} {Γ Γ1 Γ0 : List Sl} {fr : Bool} (h1 : it Γ = .val ((xs.map enc, fr), Γ1)) (hs : xs.length < 2 ^ 20) (h0 : wipeG Γ1 vs = Γ0)
    (hb : ∀ x ∈ xs, ∃ Γ2, g fr (enc x) Γ0 = some Γ2 ∧ wipeG Γ2 vs = Γ0 ∧ t Γ2 = .val (p x, Γ2) ∧ (p x = true → e Γ2 = .val (.d true (enc x), Γ2))) : nComp vs g it t e Γ = .val ((xs.filter p).map enc, Γ0) := n_comp xs p enc h1 hs h0 hb
theorem e_ap {Γ Γ1 : List Sl} {f : DF} {d : PyData} {ds es : List PyData} {m : Nat} {io : Bool} (h0 : cellL Γ m = some (io, es)) (h1 : dFrz f Γ = .val (.d true d, Γ1)) (h2 : cellL Γ1 m = some (io, ds)) (h3 : ltS ds = true) : dLm m qAppend (dAc (dFrz f) dA0) Γ = .val (.d true .none, Γ1.set m (mkS io (.lst (ds ++ [d])))) := by
  unfold dLm
  rw [h0, ofO_some, bind_val, a_cons h1 a_nil, bind_val, h2, ofO_some, bind_val]
  show ((qAppend ds [.d true d]).bind _) = _
  unfold qAppend
  simp only [h3]
  rfl
theorem ltS_map {α β : Type} {f : α → β} {xs : List α} (h : xs.length < 2 ^ 20) : ltS (xs.map f) = true := ltS_of (by rw [List.length_map]; exact h)
theorem szB_map {α β : Type} {f : α → β} {xs : List α} (h : xs.length < 2 ^ 20) : szB (xs.map f) = true := szB_of (by rw [List.length_map]; exact h)
section
variable {Γ : List Sl} {a b : AV} {α : Type} [DecidableEq α] {enc : α → PyData} {k : Nat} {x y : α}
theorem k_eqT (E : EqT enc k) (hk : k ≤ 64) (h1 : rdD Γ a = some (enc x)) (h2 : rdD Γ b = some (enc y)) : kEq Γ a b = .val (decide (x = y)) := k_eq h1 h2 (E.sh hk x) (E.sh hk y) (E.eq x y)
theorem k_neT (E : EqT enc k) (hk : k ≤ 64) (h1 : rdD Γ a = some (enc x)) (h2 : rdD Γ b = some (enc y)) : kNe Γ a b = .val (!decide (x = y)) := k_ne h1 h2 (E.sh hk x) (E.sh hk y) (E.eq x y)
theorem any_T (E : EqT enc k) : ∀ xs : List α, ((xs.map enc).any fun z => PyData.eqv z (enc x)) = decide (x ∈ xs)
  | [] => rfl
  | y :: ys => by
    rw [List.map_cons, List.any_cons, any_T E ys, E.eq y x]
    by_cases h : y = x
    · subst h; simp
    · have : ¬ x = y := fun e => h e.symm
      simp [h, this]
theorem dicA_lst {Γ : List Sl} {ds : List PyData} {a : AV} (h : rdD Γ a = some (.list ds)) : dicA Γ a = none := by
  unfold dicA
  cases a with
  | d fr d => cases h; rfl
  | s j =>
    unfold rdD at h
    simp only at h ⊢
    split at h <;> simp_all
theorem k_inT (E : EqT enc k) (hk : k + 1 ≤ 64) {xs : List α} (h1 : rdD Γ a = some (enc x)) (h2 : rdD Γ b = some (.list (xs.map enc))) : kInB Γ a b = .val (decide (x ∈ xs)) := by
  unfold kInB
  rw [dicA_lst h2]
  unfold kIn
  simp only [h1, h2]
  rw [E.sh (by omega) x, (eqt_list E).sh hk xs, any_T E]
  rfl
theorem k_ninT (E : EqT enc k) (hk : k + 1 ≤ 64) {xs : List α} (h1 : rdD Γ a = some (enc x)) (h2 : rdD Γ b = some (.list (xs.map enc))) : kNinB Γ a b = .val (!decide (x ∈ xs)) := by
  unfold kNinB
  rw [k_inT E hk h1 h2]
  rfl
end
abbrev dKV (kvs : List (Int × PyData)) : List (PyData × PyData) := kvs.map fun z => (PyData.int z.1, z.2)
def lookI (kvs : List (Int × PyData)) (k : Int) : Option PyData := (kvs.find? fun z => decide (z.1 = k)).map (·.2)
def putI (kvs : List (Int × PyData)) (k : Int) (v : PyData) : List (Int × PyData) := if kvs.any (fun z => decide (z.1 = k)) then kvs.map (fun z => if z.1 = k then (z.1, v) else z) else kvs ++ [(k, v)]
theorem getD_kv (kvs : List (Int × PyData)) (k : Int) : getD (dKV kvs) (.int k) = lookI kvs k := by
  unfold getD lookI
  rw [List.find?_map, Option.map_map]
  rfl
theorem putD_kv (kvs : List (Int × PyData)) (k : Int) (v : PyData) : putD (dKV kvs) (.int k) v = dKV (putI kvs k v) := by
  unfold putD putI dKV
  have e : (kvs.map fun z => (PyData.int z.1, z.2)).any (fun z => eqK z.1 (.int k)) = kvs.any (fun z => decide (z.1 = k)) := by rw [List.any_map]; rfl
  rw [e]
  split
  · rw [List.map_map, List.map_map]
    apply List.map_congr_left
    intro z _
    by_cases h : z.1 = k <;> simp [eqK, h]
  · simp
theorem lookI_nil (k : Int) : lookI [] k = none := rfl
theorem lookI_none {kvs : List (Int × PyData)} {k : Int} : lookI kvs k = none ↔ ∀ v, (k, v) ∉ kvs := by
  unfold lookI
  rw [Option.map_eq_none_iff, List.find?_eq_none]
  constructor
  · intro h v hv
    exact h _ hv (by simp)
  · intro h z hz e
    have e : z.1 = k := by simpa using e
    exact h z.2 (by rw [← e]; exact hz)
theorem lookI_cons (z : Int × PyData) (kvs : List (Int × PyData)) (k : Int) : lookI (z :: kvs) k = if z.1 = k then some z.2 else lookI kvs k := by
  unfold lookI
  rw [List.find?_cons]
  by_cases h : z.1 = k <;> simp [h]
theorem lookI_snoc (kvs : List (Int × PyData)) (a : Int) (v : PyData) (k : Int) : lookI (kvs ++ [(a, v)]) k = if (lookI kvs k).isSome then lookI kvs k else if a = k then some v else none := by
  induction kvs with
  | nil => simp [lookI_cons, lookI_nil]
  | cons z r ih =>
    rw [List.cons_append, lookI_cons, lookI_cons, ih]
    by_cases h : z.1 = k <;> simp [h]
theorem any_lookI (kvs : List (Int × PyData)) (k : Int) : kvs.any (fun z => decide (z.1 = k)) = (lookI kvs k).isSome := by
  induction kvs with
  | nil => rfl
  | cons z r ih => rw [List.any_cons, lookI_cons, ih]; by_cases h : z.1 = k <;> simp [h]
theorem lookI_put (kvs : List (Int × PyData)) (a : Int) (v : PyData) (k : Int) : lookI (putI kvs a v) k = if k = a then some v else lookI kvs k := by
  unfold putI
  rw [any_lookI]
  split
  · rename_i hs
    induction kvs with
    | nil => simp [lookI_nil] at hs
    | cons z r ih =>
      rw [List.map_cons, lookI_cons, lookI_cons]
      rw [lookI_cons] at hs
      by_cases h : z.1 = a
      · subst h
        simp only [if_true]
        by_cases h2 : z.1 = k
        · subst h2; simp
        · rw [if_neg h2, if_neg h2, if_neg (Ne.symm h2)]
          by_cases h3 : (lookI r z.1).isSome
          · rw [ih h3, if_neg (Ne.symm h2)]
          · have hn : lookI r z.1 = none := by simpa using h3
            have : r.map (fun y => if y.1 = z.1 then (y.1, v) else y) = r := by
              have e2 : r.map (fun y => if y.1 = z.1 then (y.1, v) else y) = r.map id := List.map_congr_left fun y hy => by
                rw [if_neg]
                · rfl
                · intro q
                  exact lookI_none.mp hn y.2 (by rw [← q]; exact hy)
              rw [e2, List.map_id]
            rw [this]
      · rw [if_neg h] at hs
        simp only [if_neg h]
        rw [ih hs]
        by_cases h2 : z.1 = k
        · subst h2; simp [h]
        · simp [h2]
  · rename_i hs
    rw [lookI_snoc]
    by_cases h : k = a
    · subst h; simp at hs; simp [hs]
    · rw [if_neg h, if_neg (Ne.symm h)]
      split
      · rfl
      · rename_i h2; simp at h2; rw [h2]
theorem putI_new {kvs : List (Int × PyData)} {a : Int} (v : PyData) (h : lookI kvs a = none) : putI kvs a v = kvs ++ [(a, v)] := by
  unfold putI
  rw [any_lookI, h]
  simp
section
variable {Γ : List Sl} {fr fr2 io : Bool} {k : Int} {kvs : List (Int × PyData)} {m : Nat} {v : PyData}
theorem k_ninKS (h : dicA Γ (.s m) = some (true, .k, dKV kvs)) : kNinB Γ (.d fr (.int k)) (.s m) = .val (!(lookI kvs k).isSome) := by
  unfold kNinB kInB
  simp only [h, rdD, getD_kv]
  rfl
theorem k_inKS (h : dicA Γ (.s m) = some (true, .k, dKV kvs)) : kInB Γ (.d fr (.int k)) (.s m) = .val (lookI kvs k).isSome := by
  unfold kInB
  simp only [h, rdD, getD_kv]
  rfl
theorem kindKV (h : kvs ≠ []) : kindD (dKV kvs) = some .k := by
  cases kvs with
  | nil => exact absurd rfl h
  | cons z r => rfl
theorem k_inKD (h : kvs ≠ []) : kInB Γ (.d fr (.int k)) (.d fr2 (.dict (dKV kvs))) = .val (lookI kvs k).isSome := by
  unfold kInB dicA
  simp only [kindKV h, Option.map_some, rdD, getD_kv]
  rfl
theorem putC_kv (h : kvs.length < 2 ^ 20) : putC (.dic .k (dKV kvs)) (.int k) v = some (.dic .k (dKV (putI kvs k v))) := by
  unfold putC
  have : decide ((dKV kvs).length < sizeLine) = true := by
    apply decide_eq_true
    have : (2 : Nat) ^ 20 ≤ sizeLine := by decide
    rw [List.length_map]; omega
  simp only [this, putD_kv]
  rfl
theorem putC_lst {ds : List PyData} {j : Nat} (h : j < ds.length) : putC (.lst ds) (.int (j : Nat)) v = some (.lst (ds.set j v)) := by
  unfold putC
  simp only [ixN_nat h]
  rfl
end
theorem e_pop {Γ : List Sl} {m : Nat} {io : Bool} {ds : List PyData} {y : PyData} (h : cellL Γ m = some (io, ds ++ [y])) : dLm m qPop dA0 Γ = .val (.d true y, Γ.set m (mkS io (.lst ds))) := by
  unfold dLm
  rw [h, ofO_some, bind_val, a_nil, bind_val, h, ofO_some, bind_val]
  unfold qPop
  simp only [List.getLast?_concat, List.dropLast_concat]
  rfl
theorem e_ins {Γ Γ1 : List Sl} {m : Nat} {io : Bool} {es ds : List PyData} {fi fx : DF} {n : Int} {y : PyData} {fr : Bool} (h0 : cellL Γ m = some (io, es)) (h1 : dAc fi (dAc (dFrz fx) dA0) Γ = .val ([.d fr (.int n), .d true y], Γ1)) (h2 : cellL Γ1 m = some (io, ds)) (h3 : cIns ds n = true) : dLm m qInsert (dAc fi (dAc (dFrz fx) dA0)) Γ = .val (.d true .none, Γ1.set m (mkS io (.lst (insI ds n y)))) := by
  unfold dLm
  rw [h0, ofO_some, bind_val, h1, bind_val, h2, ofO_some, bind_val]
  unfold qInsert
  simp only [h3]
  rfl
theorem shS {a : Str} (h : PyData.strOk a = true) : SeqAt.shaped (.str a) = true := by
  unfold SeqAt.shaped
  rw [PyData.canLay0, h]
  rfl
theorem k_neS {Γ : List Sl} {f1 f2 : Bool} {a b : Str} (h1 : PyData.strOk a = true := by decide +kernel) (h2 : PyData.strOk b = true := by decide +kernel) : kNe Γ (.d f1 (.str a)) (.d f2 (.str b)) = .val (!decide (a = b)) := k_ne rfl rfl (shS h1) (shS h2) (by show (a == b) = _; rfl)
theorem k_eqS {Γ : List Sl} {f1 f2 : Bool} {a b : Str} (h1 : PyData.strOk a = true := by decide +kernel) (h2 : PyData.strOk b = true := by decide +kernel) : kEq Γ (.d f1 (.str a)) (.d f2 (.str b)) = .val (decide (a = b)) := k_eq rfl rfl (shS h1) (shS h2) (by show (a == b) = _; rfl)
theorem x_callM {Γ Γ1 : List Sl} {k : DA} {as : List AV} {ars : List Ar} {ms : List Bool} {m : List Ar → R (Rs × List Sl)} {dds : List PyData} {r : Rs} {Z : List Sl} (h1 : k Γ = .val (as, Γ1)) (h2 : rdAs Γ1 none ms as = some ars) (h3 : m (ars ++ dds.map Ar.d) = .val (r, Z)) : xCallM m ms dds k Γ = .val (r, Γ1) := by
  unfold xCallM; rw [h1, bind_val, h2, ofO_some, bind_val, h3]; rfl
theorem x_callCM {Γ Γ1 : List Sl} {k : DA} {as : List AV} {ars : List Ar} {ms : List Bool} {m : List Ar → R (Rs × List Sl)} {dds : List PyData} {r : Rs} {Z : List Sl} {p q : Nat} {ic : Bool × Cl} {cl : Cl} (h1 : k Γ = .val (as, Γ1)) (h2 : pickC p as = some q) (h3 : cellAt Γ1 q = some ic) (h4 : rdAs Γ1 (some q) ms (as.eraseIdx p) = some ars) (h6 : m (insA p ic.2 (ars ++ dds.map Ar.d)) = .val (r, Z)) (h7 : ioAt p Z = some cl) :
    xCallCM m p ms dds k Γ = .val (r, Γ1.set q (mkS ic.1 cl)) := by
  unfold xCallCM; rw [h1, bind_val, h2, ofO_some, bind_val, h3, ofO_some, bind_val, h4, ofO_some, bind_val, h6]
  show ((R.ofO (ioAt p Z)).bind _).bind _ = _
  rw [h7]
  rfl
end PD
set_option linter.all false
set_option maxRecDepth 100000
set_option autoImplicit false
namespace PD
open PySem L2
end PD
set_option linter.all false
set_option maxRecDepth 100000
set_option autoImplicit false
namespace PD
open PySem L2
end PD
set_option linter.all false
set_option maxRecDepth 100000
set_option autoImplicit false
namespace PD
open PySem L2
end PD
set_option linter.all false
set_option maxRecDepth 100000
set_option autoImplicit false
namespace PD
open PySem L2
def b_qcell_at : DS := (bSeq (bIf (dTst (dCmp (kI fun i j => decide (i < j)) (dVar 1) (dB kLen (dAc (dVar 0) dA0)))) (bSeq (bRet (dIxB (dVar 0) (dVar 1))) bNil) bNil) (bSeq (bRet (dC (.int 0))) bNil))
def u_qcell_at : List Ar → R (Rs × List Sl) := runB 2 2 b_qcell_at
def b_qfeed : DS := (bSeq (bRetC (nL (dLst (dAc (eX (xCall u_qcell_at [] (dAc (dVar 0) (dAc (dVar 1) dA0)))) (dAc (dC (.int 0)) (dAc (dFrz (dVar 1)) dA0)))))) bNil)
def u_qfeed : List Ar → R (Rs × List Sl) := runB 2 2 b_qfeed
def b_qtake : DS := (bSeq (bPut 0 (dAdd (dIxB (dVar 0) (dC (.int 1))) (dC (.int 1))) (dC (.int 1))) (bSeq (bIf (dTst (dCmp (kI fun i j => decide (j ≤ i)) (dIxB (dVar 0) (dC (.int 0))) (dI kPow (dC (.int 10)) (dC (.int 18))))) (bSeq (bSet 2 (dI kMod (dIxB (dVar 0) (dC (.int 0))) (dVar 1))) (bSeq (bPut 0 (dI kDiv (dIxB (dVar 0) (dC (.int 0))) (dVar 1)) (dC (.int 0))) (bSeq (bRet (dVar 2)) bNil))) bNil) (bSeq (bSet 3 (dAdd (dAdd (dAdd (dI kMod (dIxB (dVar 0) (dC (.int 0))) (dC (.int 2147483647))) (dI kMul (dC (.int 40692)) (dIxB (dVar 0) (dC (.int 1))))) (dI kMul (dC (.int 7919)) (dIxB (dVar 0) (dC (.int 2))))) (dC (.int 12345)))) (bSeq (bSet 3 (dI kMod (dI kMul (dVar 3) (dC (.int 48271))) (dC (.int 2147483629)))) (bSeq (bRet (dI kMod (dI kDiv (dI kMod (dI kMul (dVar 3) (dAdd (dVar 3) (dC (.int 69621)))) (dC (.int 2147483587))) (dC (.int 64))) (dVar 1))) bNil)))))
def u_qtake : List Ar → R (Rs × List Sl) := runB 4 2 b_qtake
def b_qnet_k12 : DS := (bSeq (bSet 2 (dAdd (dC (.int 1)) (eX (xCallC u_qtake 0 [] (dAc (dVar 0) (dAc (dVar 1) dA0)))))) (bSeq (bSet 3 (eX (xCallC u_qtake 0 [] (dAc (dVar 0) (dAc (dC (.int 8)) dA0))))) (bSeq (bSetX 4 (xC (nL (dLst dA0)))) (bSeq (bFor [5, 6, 7, 8, 9] (gN 5) (iRange1 (dVar 2)) (bSeq (bSetX 6 (xC (nL (dLst dA0)))) (bSeq (bFor [7, 8, 9] (gN 7) (iRange1 (dVar 5)) (bSeq (bSet 8 (dI kSub (dVar 5) (dVar 7))) (bSeq (bSet 9 (dFrz (dIxB (dOfN (dLst (dAc (dCmp kEq (dVar 8) (dC (.int 1))) (dAc (dCmp kEq (dVar 7) (dC (.int 0))) (dAc (dCmp kEq (dVar 8) (dC (.int 2))) (dAc (dCmp kEq (dVar 8) (dI kSub (dC (.int 2)) (dI kMod (dVar 5) (dC (.int 2))))) (dAc (dC (.bool false)) dA0))))))) (dB kMin2 (dAc (dVar 3) (dAc (dC (.int 4)) dA0)))))) (bSeq (bIf (dTst (dCmp (kI fun i j => decide (j < i)) (dVar 3) (dC (.int 4)))) (bSeq (bSet 9 (dCmp kEq (eX (xCallC u_qtake 0 [] (dAc (dVar 0) (dAc (dI kSub (dVar 3) (dC (.int 3))) dA0)))) (dC (.int 0)))) bNil) bNil) (bSeq (bIf (dTst (dVar 9)) (bSeq (bExpr (dLm 6 qAppend (dAc (dFrz (dVar 7)) dA0))) bNil) bNil) bNil))))) (bSeq (bExpr (dLm 4 qAppend (dAc (dFrz (dB kTuple (dAc (dVar 6) dA0))) dA0))) bNil)))) (bSeq (bRet (dB kTuple (dAc (dVar 4) dA0))) bNil)))))
def u_qnet_k12 : List Ar → R (Rs × List Sl) := runB 10 2 b_qnet_k12
end PD
set_option linter.all false
set_option maxRecDepth 100000
set_option autoImplicit false
namespace PD
open PySem L2
def b_p_some_of : DS := (bSeq (bIf (dTst (dCmp kIs (dVar 0) (dC .none))) (bSeq (bRetC (nL (dLst dA0))) bNil) bNil) (bSeq (bRetC (nL (dBN kList (dAc (dVar 0) dA0)))) bNil))
def u_p_some_of : List Ar → R (Rs × List Sl) := runB 1 1 b_p_some_of
end PD
set_option linter.all false
set_option maxRecDepth 100000
set_option autoImplicit false
namespace PD
open PySem L2
end PD
set_option linter.all false
set_option maxRecDepth 100000
set_option autoImplicit false
namespace PD
open PySem L2
def b_p_makes_of : DS := (bSeq (bRet (dB kTuple (dAc (dOfN (nComp [1, 2] (gT2 (gN 1) (gN 2)) (iSeq (dVar 0)) tYes (dFrz (dVar 1)))) dA0))) bNil)
def u_p_makes_of : List Ar → R (Rs × List Sl) := runB 3 1 b_p_makes_of
def b_p_mask_of : DS := (bSeq (bSet 1 (dC (.int 0))) (bSeq (bFor [2] (gN 2) (iSeq (dVar 0)) (bSeq (bSet 1 (dI kOr (dVar 1) (dI kShl (dC (.int 1)) (dVar 2)))) bNil)) (bSeq (bRet (dVar 1)) bNil)))
def u_p_mask_of : List Ar → R (Rs × List Sl) := runB 3 1 b_p_mask_of
def b_p_speaks : DS := (bSeq (bSetG (gT2 (gN 3) (gN 4)) (dFrz (dVar 1))) (bSeq (bIf (dTst (dCmp kEq (dVar 4) (dC (.str "bad")))) (bSeq (bRet (dNot (eX (xCall uIsIn [] (dAc (dIxB (dVar 0) (dVar 3)) (dAc (dVar 2) dA0)))))) bNil) bNil) (bSeq (bRet (dAnd (dCmp kEq (dVar 4) (dC (.str "good"))) (eX (xCall uIsIn [] (dAc (dIxB (dVar 0) (dVar 3)) (dAc (dVar 2) dA0)))))) bNil)))
def u_p_speaks : List Ar → R (Rs × List Sl) := runB 5 3 b_p_speaks
def b_p_behind_bits : DS := (bSeq (bSetX 4 (xC (nL (dLst dA0)))) (bSeq (bFor [5, 6, 7] (gT2 (gN 5) (gN 6)) (iSeq (dVar 1)) (bSeq (bSet 7 (dAdd (dVar 6) (dB kInt (dAc (eX (xCall u_p_speaks [] (dAc (dVar 0) (dAc (dVar 2) (dAc (dVar 5) dA0))))) dA0)))) (bSeq (bIf (dTst (dCmp (kI fun i j => decide (i ≤ j)) (dVar 7) (dVar 3))) (bSeq (bExpr (dLm 4 qAppend (dAc (dFrz (dTup (dAc (dFrz (dVar 5)) (dAc (dFrz (dVar 7)) dA0)))) dA0))) bNil) bNil) bNil))) (bSeq (bRet (dB kTuple (dAc (dVar 4) dA0))) bNil)))
def u_p_behind_bits : List Ar → R (Rs × List Sl) := runB 8 4 b_p_behind_bits
end PD
set_option linter.all false
set_option maxRecDepth 100000
set_option autoImplicit false
namespace PD
open PySem L2
def b_qfrom : DS := (bSeq (bSetX 1 (xC (nL (dLst dA0)))) (bSeq (bFor [2, 3, 4, 5, 6] (gT2 (gN 2) (gN 3)) (iEnum (dVar 0)) (bSeq (bSetX 4 (xC (nDic1 2 (.bool true)))) (bSeq (bFor [5, 6] (gN 5) (iSeq (dVar 3)) (bSeq (bFor [6] (gN 6) (iKeyD (dIxB (dVar 1) (dVar 5))) (bSeq (bPut 4 (dC (.bool true)) (dVar 6)) bNil)) bNil)) (bSeq (bExpr (dLm 1 qAppend (dAc (dFrzK (dVar 4)) dA0))) bNil)))) (bSeq (bRetO 1) bNil)))
def u_qfrom : List Ar → R (Rs × List Sl) := runB 7 1 b_qfrom
end PD
set_option linter.all false
set_option maxRecDepth 100000
set_option autoImplicit false
namespace PD
open PySem L2
end PD
set_option linter.all false
set_option maxRecDepth 100000
set_option autoImplicit false
namespace PD
open PySem L2
end PD
set_option linter.all false
set_option maxRecDepth 100000
set_option autoImplicit false
namespace PD
open PySem L2
end PD
set_option linter.all false
set_option maxRecDepth 100000
set_option autoImplicit false
namespace PD
open PySem L2
theorem as_call {m : List Ar → R (Rs × List Sl)} {as : List Ar} {z : Rs × List Sl} (h : m as = .val z) : m as = .val z := h
local macro_rules
  | `(tactic| array_get_dec) => `(tactic| with_reducible first
  | exact e_C | exact a_nil | exact k_sub | exact k_and | exact k_or | exact k_eqI | exact k_neI | exact k_I | exact k_mx2 | exact k_mn2
  | apply e_I | apply e_add | apply e_neg | apply e_cmp | apply t_tst | apply t_not | apply e_not | apply t_or | apply t_and | apply e_and | apply e_or
  | apply k_mul | apply k_div | apply k_mod | apply k_pow | apply k_shl | apply k_shr
  | apply a_cons | apply n_lst | apply e_tup | apply e_ofN | apply c_l | apply x_c | apply e_B | apply n_B | apply e_isi
  | apply e_x | apply x_call | apply x_callE | apply x_callM | apply e_frzT | apply e_ap | apply i_seqL | apply i_seqT | apply i_enumL | apply i_enumT | apply i_range1 | apply i_range2 | apply n_lrng1 | apply n_lrng2)
local macro_rules
  | `(tactic| array_mem_dec) => `(tactic| repeat' first | exact e_frz (e_var rfl) | array_get_dec | exact e_var rfl | exact e_varO rfl | exact e_varI rfl | (refine as_call ?_; assumption) | exact k_neS | exact k_eqS | exact e_pop rfl | exact e_ixT (e_var rfl) e_C rfl | exact e_ixL (e_var rfl) e_C rfl | exact e_ixS (e_varI rfl) e_C rfl rfl | exact e_ixS (e_varO rfl) e_C rfl rfl | exact k_ninKS rfl | exact k_inKS rfl | exact k_lenI rfl | exact k_lenJ rfl | rfl | exact flat_int _ | (intro _))
local macro_rules
  | `(tactic| and_intros) => `(tactic| repeat (with_reducible first | apply w_seqN | apply w_seqA))
local macro_rules
  | `(tactic| bv_decide) => `(tactic| (and_intros; (with_reducible first | apply w_set | apply w_setX | apply w_setC | apply w_setG | apply w_expr | apply w_exprX | apply w_inc); array_mem_dec))
local macro_rules
  | `(tactic| bv_normalize) => `(tactic| (and_intros; apply w_ifN; array_mem_dec; (try (case hz => first | rfl | (simp [tyIs, isN, optI]; done) | (simp [tyIs, isN, optI]; omega))); and_intros))
local macro_rules
  | `(tactic| simp_all_arith) => `(tactic| (and_intros; apply w_ifY; array_mem_dec; (try (case hz => first | rfl | (simp [tyIs, isN, optI]; done) | (simp [tyIs, isN, optI]; omega))); and_intros))
local macro_rules
  | `(tactic| apply_assumption) => `(tactic| (and_intros; apply w_ifB; focus array_mem_dec))
local macro_rules
  | `(tactic| nofun) => `(tactic| (and_intros; (with_reducible first | apply w_ret | apply w_retX | apply w_retC | apply w_retO | apply w_ret0); array_mem_dec))
local macro_rules
  | `(tactic| ac_rfl) => `(tactic| (all_goals (try (with_reducible first | exact mulL (by decide) | exact mulR (by decide) | exact mulR (by omega) | exact mulL (by omega) | exact mulL (mod_64 (by decide) (by decide)) | exact modP (by first | assumption | decide | omega) | exact divP (by first | assumption | decide | omega) (by first | assumption | decide | omega) | exact cRng_of (by omega) (by omega) (by omega) (by omega)))))
end PD
section
open PySem L2 PD
local macro_rules
  | `(tactic| array_get_dec) => `(tactic| with_reducible first
  | exact e_C | exact a_nil | exact k_sub | exact k_and | exact k_or | exact k_eqI | exact k_neI | exact k_I | exact k_mx2 | exact k_mn2
  | apply e_I | apply e_add | apply e_neg | apply e_cmp | apply t_tst | apply t_not | apply e_not | apply t_or | apply t_and | apply e_and | apply e_or
  | apply k_mul | apply k_div | apply k_mod | apply k_pow | apply k_shl | apply k_shr
  | apply a_cons | apply n_lst | apply e_tup | apply e_ofN | apply c_l | apply x_c | apply e_B | apply n_B | apply e_isi
  | apply e_x | apply x_call | apply x_callE | apply x_callM | apply e_frzT | apply e_ap | apply i_seqL | apply i_seqT | apply i_enumL | apply i_enumT | apply i_range1 | apply i_range2 | apply n_lrng1 | apply n_lrng2)
local macro_rules
  | `(tactic| array_mem_dec) => `(tactic| repeat' first | exact e_frz (e_var rfl) | array_get_dec | exact e_var rfl | exact e_varO rfl | exact e_varI rfl | (refine as_call ?_; assumption) | exact k_neS | exact k_eqS | exact e_pop rfl | exact e_ixT (e_var rfl) e_C rfl | exact e_ixL (e_var rfl) e_C rfl | exact e_ixS (e_varI rfl) e_C rfl rfl | exact e_ixS (e_varO rfl) e_C rfl rfl | exact k_ninKS rfl | exact k_inKS rfl | exact k_lenI rfl | exact k_lenJ rfl | rfl | exact flat_int _ | (intro _))
local macro_rules
  | `(tactic| and_intros) => `(tactic| repeat (with_reducible first | apply w_seqN | apply w_seqA))
local macro_rules
  | `(tactic| bv_decide) => `(tactic| (and_intros; (with_reducible first | apply w_set | apply w_setX | apply w_setC | apply w_setG | apply w_expr | apply w_exprX | apply w_inc); array_mem_dec))
local macro_rules
  | `(tactic| bv_normalize) => `(tactic| (and_intros; apply w_ifN; array_mem_dec; (try (case hz => first | rfl | (simp [tyIs, isN, optI]; done) | (simp [tyIs, isN, optI]; omega))); and_intros))
local macro_rules
  | `(tactic| simp_all_arith) => `(tactic| (and_intros; apply w_ifY; array_mem_dec; (try (case hz => first | rfl | (simp [tyIs, isN, optI]; done) | (simp [tyIs, isN, optI]; omega))); and_intros))
local macro_rules
  | `(tactic| apply_assumption) => `(tactic| (and_intros; apply w_ifB; focus array_mem_dec))
local macro_rules
  | `(tactic| nofun) => `(tactic| (and_intros; (with_reducible first | apply w_ret | apply w_retX | apply w_retC | apply w_retO | apply w_ret0); array_mem_dec))
local macro_rules
  | `(tactic| ac_rfl) => `(tactic| (all_goals (try (with_reducible first | exact mulL (by decide) | exact mulR (by decide) | exact mulR (by omega) | exact mulL (by omega) | exact mulL (mod_64 (by decide) (by decide)) | exact modP (by first | assumption | decide | omega) | exact divP (by first | assumption | decide | omega) (by first | assumption | decide | omega) | exact cRng_of (by omega) (by omega) (by omega) (by omega)))))
set_option linter.all false
set_option maxRecDepth 100000
set_option autoImplicit false
namespace PD
open PySem L2
def WE (b : DS) (Γ : List Sl) (x : Exn) : Prop := b Γ = .exc x
section
variable {Γ Γ1 Γ2 : List Sl} {f g : DF} {b r r2 c2 : DS} {x : DX} {t : DT} {fr z : Bool} {d : PyData} {P : Fw → List Sl → Prop} {m i : Nat} {y : Exn} {k : DA} {as : List AV} {ds : List PyData}
theorem we_seqN (h : WE r Γ y) : WE (bSeq bNil r) Γ y := h
theorem we_seqA (h : WE (bSeq b (bSeq r r2)) Γ y) : WE (bSeq (bSeq b r) r2) Γ y := by
  have e : bSeq (bSeq b r) r2 Γ = bSeq b (bSeq r r2) Γ := by
    unfold bSeq
    rw [R.bind_assoc]
    congr 1
    funext z
    obtain ⟨w, Γ1⟩ := z
    cases w <;> rfl
  unfold WE
  rw [e]
  exact h
theorem we_ifY (h1 : t Γ = .val (z, Γ1)) (hz : z = true) (h : WE (bSeq b r) Γ1 y) : WE (bSeq (bIf t b c2) r) Γ y := by
  subst hz
  have e : bSeq (bIf t b c2) r Γ = bSeq b r Γ1 := by
    unfold bSeq bIf
    rw [h1, bind_val]; rfl
  unfold WE
  rw [e]; exact h
theorem we_ifN (h1 : t Γ = .val (z, Γ1)) (hz : z = false) (h : WE (bSeq c2 r) Γ1 y) : WE (bSeq (bIf t b c2) r) Γ y := by
  subst hz
  have e : bSeq (bIf t b c2) r Γ = bSeq c2 r Γ1 := by
    unfold bSeq bIf
    rw [h1, bind_val]; rfl
  unfold WE
  rw [e]; exact h
end
local macro_rules
  | `(tactic| injections) => `(tactic| repeat (with_reducible first | apply we_seqN | apply we_seqA))
local macro_rules
  | `(tactic| false_or_by_contra) => `(tactic| (injections; apply we_ifN; array_mem_dec; (try (case hz => first | rfl | (simp [tyIs, isN, optI]; done) | (simp [tyIs, isN, optI]; omega))); injections))
local macro_rules
  | `(tactic| subst_eqs) => `(tactic| (injections; apply we_ifY; array_mem_dec; (try (case hz => first | rfl | (simp [tyIs, isN, optI]; done) | (simp [tyIs, isN, optI]; omega))); injections))
end PD
section
open PySem L2 PD
local macro_rules
  | `(tactic| injections) => `(tactic| repeat (with_reducible first | apply we_seqN | apply we_seqA))
local macro_rules
  | `(tactic| false_or_by_contra) => `(tactic| (injections; apply we_ifN; array_mem_dec; (try (case hz => first | rfl | (simp [tyIs, isN, optI]; done) | (simp [tyIs, isN, optI]; omega))); injections))
local macro_rules
  | `(tactic| subst_eqs) => `(tactic| (injections; apply we_ifY; array_mem_dec; (try (case hz => first | rfl | (simp [tyIs, isN, optI]; done) | (simp [tyIs, isN, optI]; omega))); injections))
set_option linter.all false
set_option maxRecDepth 100000
set_option autoImplicit false
namespace PD
open PySem L2
def El (net : List (List Int)) (m e : Nat) : Prop := ∃ row, net[m]? = some row ∧ ((e : Nat) : Int) ∈ row
inductive Wk (net : List (List Int)) (y : Nat) : Nat → Nat → Prop
  | nil : Wk net y y 0
  | snoc {m n e : Nat} : Wk net y m n → El net m e → Wk net y e (n + 1)
theorem wk0 {net : List (List Int)} {y o : Nat} (h : Wk net y o 0) : o = y := by cases h; rfl
theorem El.lt {net : List (List Int)} (hN : NetOk net) {m e : Nat} (h : El net m e) : e < m := by
  obtain ⟨row, h1, h2⟩ := h
  have := ((hN m row h1).1 _ h2).2
  omega
theorem Wk.le {net : List (List Int)} (hN : NetOk net) {y o n : Nat} (h : Wk net y o n) : o + n ≤ y := by
  induction h with
  | nil => omega
  | snoc a b ih => have := b.lt hN; omega
def Lst (S : Nat → Prop) : Option Nat → Prop
  | none => ∀ n, ¬ S n
  | some n => S n ∧ ∀ k, S k → n ≤ k
theorem lst_iff {S T : Nat → Prop} {a : Option Nat} (h : Lst S a) (e : ∀ n, S n ↔ T n) : Lst T a := by
  cases a with
  | none => exact fun n => fun z => h n ((e n).mpr z)
  | some n => exact ⟨(e n).mp h.1, fun k z => h.2 k ((e k).mpr z)⟩
abbrev Ds (net : List (List Int)) (y o : Nat) (a : Option Nat) : Prop := Lst (Wk net y o) a
def StOk (len : Nat) (st : List (Option Nat)) (S : Nat → Nat → Prop) : Prop := st.length = len ∧ ∀ (m : Nat) (a : Option Nat), st[m]? = some a → Lst (S m) a
theorem StOk.iff {len : Nat} {st : List (Option Nat)} {S T : Nat → Nat → Prop} (h : StOk len st S) (e : ∀ m n, S m n ↔ T m n) : StOk len st T := ⟨h.1, fun m a ha => lst_iff (h.2 m a ha) (e m)⟩
end PD
set_option linter.all false
set_option maxRecDepth 100000
set_option autoImplicit false
namespace PD
open PySem L2
theorem nodup_len : ∀ (n : Nat) (xs : List Int), xs.Nodup → (∀ x ∈ xs, 0 ≤ x ∧ x < (n : Int)) → xs.length ≤ n
  | 0, xs, _, h => by
    cases xs with
    | nil => simp
    | cons a r => have := h a (by simp); omega
  | n + 1, xs, hn, h => by
    have h1 := nodup_len n (xs.filter fun x => decide (x ≠ (n : Int))) (hn.sublist List.filter_sublist) fun x hx => by
      have q := List.mem_filter.mp hx
      have q1 := h x q.1
      have q2 : x ≠ (n : Int) := by simpa using q.2
      omega
    have h2 : (xs.filter fun x => decide (x ≠ (n : Int))).length + xs.count (n : Int) = xs.length := by
      have : xs.count (n : Int) = (xs.filter fun x => !decide (x ≠ (n : Int))).length := by
        rw [List.count_eq_length_filter]
        congr 1
        apply List.filter_congr
        intro x _
        by_cases e : x = (n : Int) <;> simp [e]
      rw [this]
      exact filt_sum (fun x => decide (x ≠ (n : Int))) xs
    have h3 : xs.count (n : Int) ≤ 1 := List.nodup_iff_count.mp hn _
    show xs.length ≤ n + 1
    have h1 : (xs.filter fun x => decide (x ≠ (n : Int))).length ≤ n := h1
    generalize (xs.filter fun x => decide (x ≠ (n : Int))).length = q at h1 h2
    omega
structure Mid (net : List (List Int)) (y L : Nat) (E : Nat → Prop) (kvs : List (Int × PyData)) (found : List Int) : Prop where
  has : ∀ e : Nat, (lookI kvs (e : Int)).isSome = true ↔ (∃ n, n ≤ L ∧ Wk net y e n) ∨ E e
  nat : ∀ k ∈ kvs.map (·.1), 0 ≤ k ∧ k < ((y + 1 : Nat) : Int)
  val : ∀ (e : Nat) (v : PyData), lookI kvs (e : Int) = some v → (e = y ∧ v = .none) ∨ ∃ m n : Nat, v = .int (m : Int) ∧ Ds net y m (some n) ∧ Ds net y e (some (n + 1)) ∧ El net m e
  fnd : ∀ x : Int, x ∈ found ↔ ∃ e : Nat, x = (e : Int) ∧ E e ∧ ¬ ∃ n, n ≤ L ∧ Wk net y e n
  nd : (kvs.map (·.1)).Nodup
  fl : found.length ≤ kvs.length
  fv : ∀ z ∈ kvs, flat z.2 = true
theorem Mid.len {net : List (List Int)} {y L : Nat} {E : Nat → Prop} {kvs : List (Int × PyData)} {found : List Int} (h : Mid net y L E kvs found) : kvs.length ≤ y + 1 := by
  have := nodup_len (y + 1) _ h.nd h.nat
  rw [List.length_map] at this
  exact this
theorem Mid.iff {net : List (List Int)} {y L : Nat} {E E' : Nat → Prop} {kvs : List (Int × PyData)} {found : List Int} (h : Mid net y L E kvs found) (e : ∀ x, E x ↔ E' x) : Mid net y L E' kvs found := by
  have : E = E' := funext fun x => propext (e x)
  subst this
  exact h
theorem Mid.old {net : List (List Int)} {y L : Nat} {E : Nat → Prop} {kvs : List (Int × PyData)} {found : List Int} (h : Mid net y L E kvs found) {e : Nat} (he : (lookI kvs (e : Int)).isSome = true) : Mid net y L (fun x => E x ∨ x = e) kvs found := by
  refine ⟨fun x => ?_, h.nat, h.val, fun x => ?_, h.nd, h.fl, h.fv⟩
  · rw [h.has]
    constructor
    · rintro (a | a)
      · exact .inl a
      · exact .inr (.inl a)
    · rintro (a | a | a)
      · exact .inl a
      · exact .inr a
      · subst a; exact (h.has _).mp he
  · rw [h.fnd]
    constructor
    · rintro ⟨z, h1, h2, h3⟩
      exact ⟨z, h1, .inl h2, h3⟩
    · rintro ⟨z, h1, h2 | h2, h3⟩
      · exact ⟨z, h1, h2, h3⟩
      · subst h2
        exact ⟨z, h1, ((h.has z).mp he).resolve_left h3, h3⟩
theorem Mid.new {net : List (List Int)} (hN : NetOk net) {y L : Nat} {E : Nat → Prop} {kvs : List (Int × PyData)} {found : List Int} (h : Mid net y L E kvs found) {m e : Nat} (he : lookI kvs (e : Int) = none) (hm : Ds net y m (some L)) (hl : El net m e) :
    Mid net y L (fun x => E x ∨ x = e) (putI kvs (e : Int) (.int (m : Int))) (found ++ [(e : Int)]) := by
  have hno : ¬ ((∃ n, n ≤ L ∧ Wk net y e n) ∨ E e) := fun z => by
    have := (h.has e).mpr z
    rw [he] at this; cases this
  have hle := (Wk.snoc hm.1 hl).le hN
  refine ⟨fun x => ?_, ?_, fun x v hv => ?_, fun x => ?_, ?_, ?_, ?_⟩
  · rw [lookI_put]
    by_cases q : ((x : Nat) : Int) = (e : Nat)
    · rw [if_pos q]
      have : x = e := by omega
      simp [this]
    · rw [if_neg q, h.has]
      have : x ≠ e := by omega
      simp [this]
  · rw [putI_new _ he]
    intro k hk
    rw [List.map_append, List.mem_append] at hk
    rcases hk with hk | hk
    · exact h.nat k hk
    · have : k = (e : Int) := by simpa using hk
      omega
  · rw [lookI_put] at hv
    by_cases q : ((x : Nat) : Int) = (e : Nat)
    · rw [if_pos q] at hv
      have : x = e := by omega
      subst this
      cases hv
      refine .inr ⟨m, L, rfl, hm, ⟨.snoc hm.1 hl, fun k hk => ?_⟩, hl⟩
      by_cases z : k ≤ L
      · exact absurd (.inl ⟨k, z, hk⟩) hno
      · omega
    · rw [if_neg q] at hv
      exact h.val x v hv
  · rw [List.mem_append, h.fnd]
    constructor
    · rintro (⟨z, h1, h2, h3⟩ | h1)
      · exact ⟨z, h1, .inl h2, h3⟩
      · exact ⟨e, by simpa using h1, .inr rfl, fun z => hno (.inl z)⟩
    · rintro ⟨z, h1, h2 | h2, h3⟩
      · exact .inl ⟨z, h1, h2, h3⟩
      · subst h2; exact .inr (by simp [h1])
  · rw [putI_new _ he, List.map_append, List.nodup_append]
    refine ⟨h.nd, by simp, fun a ha b hb => ?_⟩
    have : b = (e : Int) := by simpa using hb
    subst this
    rintro rfl
    obtain ⟨z, hz, hz2⟩ := List.mem_map.mp ha
    exact lookI_none.mp he z.2 (by rw [← hz2]; exact hz)
  · rw [putI_new _ he]
    have := h.fl
    simp; omega
  · rw [putI_new _ he]
    intro z hz
    rcases List.mem_append.mp hz with hz | hz
    · exact h.fv z hz
    · have : z = ((e : Int), PyData.int (m : Int)) := by simpa using hz
      subst this; rfl
abbrev YOk (net : List (List Int)) (y L : Nat) (kvs : List (Int × PyData)) : Prop := Mid net y L (fun _ => False) kvs []
theorem y0 (net : List (List Int)) (y : Nat) : YOk net y 0 [((y : Int), .none)] where
  has := fun e => by
    rw [lookI_cons, lookI_nil]
    simp only [Nat.le_zero_eq, or_false, exists_eq_left]
    constructor
    · intro h
      by_cases q : (y : Int) = (e : Int)
      · have : y = e := by omega
        subst this; exact .nil
      · rw [if_neg q] at h; cases h
    · intro h
      have := wk0 h
      subst this
      simp
  nat := by simp; omega
  val := fun e v h => by
    rw [lookI_cons, lookI_nil] at h
    by_cases q : (y : Int) = (e : Int)
    · rw [if_pos q] at h; cases h; exact .inl ⟨by omega, rfl⟩
    · rw [if_neg q] at h; cases h
  fnd := by simp
  nd := by simp
  fl := by simp
  fv := by simp [flat]
structure WayOk (net : List (List Int)) (y o n : Nat) (w : List Nat) : Prop where
  len : w.length = n + 1
  fst : w[0]? = some y
  lst : w[n]? = some o
  stp : ∀ (k a b : Nat), w[k]? = some a → w[k + 1]? = some b → El net a b
theorem at_last {α : Type} {xs : List α} {f : α → PyData} {x : α} : atI ((xs ++ [x]).map f) (-1) = some (f x) := by
  have : ixN ((xs ++ [x]).map f).length (-1) = some xs.length := by
    unfold ixN
    rw [List.length_map, List.length_append]
    simp
    omega
  unfold atI
  rw [this]
  simp
end PD
set_option linter.all false
set_option maxRecDepth 100000
set_option autoImplicit false
namespace PD
open PySem L2
theorem bits_q (net : List (List Int)) (hN : NetOk net) (hn : net.length ≤ 1000) : ∃ bs, BitsOk net bs ∧ uBitsOf [.d (dTT net)] = .val (.c (.lst (bs.map PyData.int)), [.un]) := bitsOf_u net hN hn
theorem isIn_q (m k : Int) (hk : 0 ≤ k) : uIsIn [.d (.int m), .d (.int k)] = .val (.d (.bool (inb m k)), [.un, .un]) := isIn_u m k hk
theorem inb_anc {net : List (List Int)} {bs : List Int} (h : BitsOk net bs) {k : Nat} {b : Int} (hb : bs[k]? = some b) (j : Nat) : inb b (j : Int) = true ↔ Anc net k j := by
  unfold inb
  rw [decide_eq_true_iff, isIn_msk (h.2 k b hb) (by omega)]
  simp
structure Ord (rows : List (List Int)) (order back : List Nat) : Prop where
  ol : order.length = rows.length
  bl : back.length = rows.length
  ob : ∀ p m : Nat, order[p]? = some m → back[m]? = some p
  bo : ∀ m p : Nat, back[m]? = some p → order[p]? = some m
  top : ∀ m e : Nat, El rows m e → ∀ p : Nat, back[m]? = some p → ∃ q : Nat, back[e]? = some q ∧ q < p
theorem Ord.lt {rows : List (List Int)} {order back : List Nat} (h : Ord rows order back) {p m : Nat} (hp : order[p]? = some m) : m < rows.length := by
  rw [← h.bl]
  exact (List.getElem?_eq_some_iff.mp (h.ob p m hp)).1
abbrev mD (tp : Bool) (ns : List Int) : PyData := if tp then dT ns else dL ns
theorem seq_mD {Γ : List Sl} {m : Nat} {fr tp : Bool} {ns : List Int} (h : Γ[m]? = some (.dat fr (mD tp ns))) : iSeq (dVar m) Γ = .val ((ns.map PyData.int, fr), Γ) := by
  cases tp with
  | true => exact i_seqT (e_var h)
  | false => exact i_seqL (e_var h)
theorem sc_mD {tp : Bool} {ns : List Int} : scD (mD tp ns) = false := by cases tp <;> rfl
theorem w_retF {Γ Γ1 : List Sl} {f : DF} {r : DS} {d : PyData} {fr : Bool} {P : Fw → List Sl → Prop} (h1 : f Γ = .val (.d fr d, Γ1)) (hf : flat d = true) (h : P (.rt (.d d)) Γ1) : W (bSeq (bRet f) r) Γ P := w_seq ⟨(.rt (.d d), Γ1), by
  unfold bRet; rw [h1, bind_val]
  cases fr with
  | true => rfl
  | false =>
    show (R.val (AV.d (flat d) d, Γ1)).bind _ = _
    rw [hf]; rfl, h⟩
end PD
set_option linter.all false
set_option maxRecDepth 100000
set_option autoImplicit false
namespace PD
open PySem L2
end PD
set_option linter.all false
set_option maxRecDepth 100000
set_option maxHeartbeats 0
set_option autoImplicit false
namespace PD
open PySem L2
theorem n_compS {α : Type} {enc : α → PyData} (xs : List α) {S : Type} (Rel : Nat → List PyData → S → Prop) (sh : S → List Sl) (s0 : S) {vs : List Nat} {g : DG} {it : DI} {t : DT} {e : DF} {Γ Γ1 : List Sl} {fr : Bool} (h1 : it Γ = .val ((xs.map enc, fr), Γ1)) (hs : xs.length < 2 ^ 20) (h0 : wipeG Γ1 vs = sh s0) (hr : Rel 0 [] s0)
    (hb : ∀ (i : Nat) (x : α) (out : List PyData) (s : S), xs[i]? = some x → Rel i out s → ∃ Γ2, g fr (enc x) (sh s) = some Γ2 ∧ ∃ z Γ3, t Γ2 = .val (z, Γ3) ∧ (z = true → ∃ o Γ4 s', e Γ3 = .val (.d true o, Γ4) ∧ wipeG Γ4 vs = sh s' ∧ Rel (i + 1) (out ++ [o]) s') ∧ (z = false → ∃ s', wipeG Γ3 vs = sh s' ∧ Rel (i + 1) out s')) :
    ∃ out s, nComp vs g it t e Γ = .val (out, sh s) ∧ Rel xs.length out s := by
  have key : Ok (nComp vs g it t e Γ) fun z => ∃ s, z.2 = sh s ∧ Rel xs.length z.1 s := by
    unfold nComp
    rw [h1, bind_val]
    have : szB (xs.map enc) = true := szB_map hs
    show Ok ((R.req (szB (xs.map enc))).bind _) _
    rw [this, req_true, bind_val, h0]
    refine ok_compU (fun i out Γ => ∃ s, Γ = sh s ∧ Rel i out s) (xs.map enc) ⟨s0, rfl, hr⟩ (fun i d out Γ hd hI => ?_) fun out Γ hI => ?_
    · obtain ⟨s, rfl, hI⟩ := hI
      obtain ⟨x, hx, rfl⟩ := gmap hd
      obtain ⟨Γ2, q1, z, Γ3, q2, hT, hF⟩ := hb i x out s hx hI
      refine ⟨Γ2, q1, ok_of q2 ?_⟩
      cases z with
      | true =>
        obtain ⟨o, Γ4, s', q3, q4, q5⟩ := hT rfl
        exact ok_of q3 ⟨o, rfl, s', q4, q5⟩
      | false =>
        obtain ⟨s', q4, q5⟩ := hF rfl
        exact ⟨s', q4, q5⟩
    · rw [List.length_map] at hI
      exact hI
  obtain ⟨⟨out, Γ'⟩, e1, s, h2, h3⟩ := key
  have h2 : Γ' = sh s := h2
  subst h2
  exact ⟨out, s, e1, h3⟩
abbrev Dk3 := Int × Int × Int
abbrev dk (d : Dk3) : Cl := .lst [.int d.1, .int d.2.1, .int d.2.2]
def BB (d : Dk3) (B : Nat) : Prop := 0 ≤ d.2.1 ∧ d.2.1 ≤ (B : Int)
theorem BB.mono {d : Dk3} {B C : Nat} (h : BB d B) (hc : B ≤ C) : BB d C := ⟨h.1, by have := h.2; omega⟩
theorem netOk_snoc {net : List (List Int)} {row : List Int} (h : NetOk net) (h1 : ∀ e ∈ row, 0 ≤ e ∧ e < (net.length : Int)) (h2 : row.Pairwise (· < ·)) : NetOk (net ++ [row]) := by
  intro k r hr
  by_cases hk : k < net.length
  · rw [List.getElem?_append_left hk] at hr
    exact h k r hr
  · have hk2 : k < (net ++ [row]).length := (List.getElem?_eq_some_iff.mp hr).1
    simp at hk2
    have : k = net.length := by omega
    subst this
    simp at hr
    subst hr
    exact ⟨h1, h2⟩
end PD
set_option linter.all false
set_option maxRecDepth 100000
set_option maxHeartbeats 0
set_option autoImplicit false
namespace PD
open PySem L2
theorem e_popAt {Γ Γ1 : List Sl} {m : Nat} {io : Bool} {es ds : List PyData} {f : DF} {fr : Bool} {j : Nat} {y : PyData} (h0 : cellL Γ m = some (io, es)) (h1 : f Γ = .val (.d fr (.int (j : Nat)), Γ1)) (h2 : cellL Γ1 m = some (io, ds)) (h3 : ds[j]? = some y) (hj : j < 2 ^ 62) : dLm m qPopAt (dAc f dA0) Γ = .val (.d true y, Γ1.set m (mkS io (.lst (ds.eraseIdx j)))) := by
  unfold dLm
  rw [h0, ofO_some, bind_val, a_cons h1 a_nil, bind_val, h2, ofO_some, bind_val]
  unfold qPopAt
  have hlt := (List.getElem?_eq_some_iff.mp h3).1
  simp only
  rw [decide_eq_true (by omega), req_true, bind_val, ixN_nat hlt, ofO_some, bind_val, h3]
  rfl
end PD
set_option linter.all false
set_option maxRecDepth 100000
set_option maxHeartbeats 0
set_option autoImplicit false
namespace PD
open PySem L2
theorem cellAt_t (ns : List Int) (k : Nat) : ∃ x : Int, u_qcell_at [.d (dL ns), .d (.int (k : Nat))] = .val (.d (.int x), [.un, .un]) := by
  have key : Ok (u_qcell_at [.d (dL ns), .d (.int (k : Nat))]) fun z => ∃ x : Int, z = (.d (.int x), [.un, .un]) := by
    refine ok_run rfl ?_
    unfold b_qcell_at
    apply_assumption
    · intro hz
      have hk : k < ns.length := by simpa using hz
      and_intros
      apply w_retF
      · apply e_ixL
        · exact e_var rfl
        · exact e_var rfl
        · exact at_nat (List.getElem?_eq_getElem hk)
      · rfl
      exact ⟨_, _, rfl, rfl, _, rfl⟩
    · intro _
      nofun
      exact ⟨_, _, rfl, rfl, 0, rfl⟩
  obtain ⟨z, e, x, rfl⟩ := key
  exact ⟨x, e⟩
theorem feed_t (ns : List Int) (k : Nat) : ∃ d : Dk3, u_qfeed [.d (dL ns), .d (.int (k : Nat))] = .val (.c (dk d), [.un, .un]) := by
  have key : Ok (u_qfeed [.d (dL ns), .d (.int (k : Nat))]) fun z => ∃ d : Dk3, z = (.c (dk d), [.un, .un]) := by
    refine ok_run rfl ?_
    unfold b_qfeed
    obtain ⟨x, hx⟩ := cellAt_t ns k
    apply w_retC
    · refine c_l (n_lst (a_cons (e_x (x_call (a_cons (e_var rfl) (a_cons (e_var rfl) a_nil)) rfl hx) rfl) (a_cons e_C (a_cons (e_frzD (e_var rfl)) a_nil))) rfl rfl)
    exact ⟨_, _, rfl, rfl, (x, 0, (k : Int)), rfl⟩
  obtain ⟨z, e, d, rfl⟩ := key
  exact ⟨d, e⟩
theorem take_t (d : Dk3) (m : Int) (hm : 0 < m) (hm2 : m < 2 ^ 64) : ∃ (r : Int) (d' : Dk3), u_qtake [.c (dk d), .d (.int m)] = .val (.d (.int r), [.io (dk d'), .un]) ∧ 0 ≤ r ∧ r < m := by
  have key : Ok (u_qtake [.c (dk d), .d (.int m)]) fun z => ∃ (r : Int) (d' : Dk3), z = (.d (.int r), [.io (dk d'), .un]) ∧ 0 ≤ r ∧ r < m := by
    refine ok_run rfl ?_
    unfold b_qtake
    apply w_put
    · exact e_frz (e_add (e_ixS (e_varI rfl) e_C rfl rfl) e_C)
    · rfl
    · exact e_C
    · rfl
    · exact putC_lst (j := 1) (by simp)
    apply_assumption
    · intro _
      bv_decide
      ac_rfl
      and_intros
      apply w_put
      · exact e_frz (e_I (e_ixS (e_varI rfl) e_C rfl rfl) (e_var rfl) (k_div (divP hm hm2)))
      · rfl
      · exact e_C
      · rfl
      · exact putC_lst (j := 0) (by simp)
      nofun
      exact ⟨_, _, rfl, rfl, _, (d.1 / m, d.2.1 + 1, d.2.2), rfl, Int.emod_nonneg _ (by omega), Int.emod_lt_of_pos _ hm⟩
    · intro _
      bv_decide
      ac_rfl
      bv_decide
      ac_rfl
      nofun
      ac_rfl
      exact ⟨_, _, rfl, rfl, _, (d.1, d.2.1 + 1, d.2.2), rfl, Int.emod_nonneg _ (by omega), Int.emod_lt_of_pos _ hm⟩
  obtain ⟨z, e, r, d', rfl, h⟩ := key
  exact ⟨r, d', e, h⟩
theorem net_t (d : Dk3) (most : Nat) (h1 : 1 ≤ most) (h2 : most ≤ 100) : ∃ (net : List (List Int)) (d' : Dk3), u_qnet_k12 [.c (dk d), .d (.int (most : Nat))] = .val (.d (dTT net), [.io (dk d'), .un]) ∧ NetOk net ∧ 1 ≤ net.length ∧ net.length ≤ most := by
  have key : Ok (u_qnet_k12 [.c (dk d), .d (.int (most : Nat))]) fun z => ∃ (net : List (List Int)) (d' : Dk3), z = (.d (dTT net), [.io (dk d'), .un]) ∧ NetOk net ∧ 1 ≤ net.length ∧ net.length ≤ most := by
    refine ok_run rfl ?_
    unfold b_qnet_k12
    obtain ⟨r1, d1, hr1, r10, r11⟩ := take_t d (most : Nat) (by omega) (by omega)
    obtain ⟨r2, d2, hr2, r20, r21⟩ := take_t d1 8 (by omega) (by omega)
    bv_decide
    bv_decide
    bv_decide
    clear hr1 hr2
    refine w_forR (N := 1 + r1) (S := List (List Int) × Dk3) (fun i s => s.1.length = i ∧ NetOk s.1) (fun s => [.io (dk s.2), .dat true (.int (most : Nat)), .dat true (.int (1 + r1)), .dat true (.int r2), .own (.lst (s.1.map fun r => dT r)), .un, .un, .un, .un, .un]) ([], d2) (i_range1 (e_var rfl) (cRng_of (by decide) (by decide) (by omega) (by omega))) rfl ⟨rfl, fun k r hr => by simp at hr⟩ ?_ ?_
    · rintro i ⟨net, d3⟩ hi ⟨hl, hN⟩
      dsimp only at hl hN ⊢
      refine ⟨_, rfl, ?_⟩
      bv_decide
      refine w_forR (N := (i : Nat)) (S := List Int × Dk3) (fun j s => s.1.length ≤ j ∧ (∀ e ∈ s.1, 0 ≤ e ∧ e < (j : Int)) ∧ s.1.Pairwise (· < ·)) (fun s => [.io (dk s.2), .dat true (.int (most : Nat)), .dat true (.int (1 + r1)), .dat true (.int r2), .own (.lst (net.map fun r => dT r)), .dat true (.int (i : Nat)), .own (.lst (s.1.map PyData.int)), .un, .un, .un]) ([], d3) (i_range1 (e_var rfl) (cRng_of (by decide) (by decide) (by omega) (by omega))) rfl ⟨by simp, by simp, by simp⟩ ?_ ?_
      · rintro j ⟨row, d4⟩ hj ⟨g1, g2, g3⟩
        dsimp only at g1 g2 g3 ⊢
        refine ⟨_, rfl, ?_⟩
        bv_decide
        obtain ⟨b, hb⟩ : ∃ b : Bool, atI [PyData.bool (decide ((i : Int) - j = 1)), .bool (decide ((j : Int) = 0)), .bool (decide ((i : Int) - j = 2)), .bool (decide ((i : Int) - j = 2 - (i : Int) % 2)), .bool false] (min2 r2 4) = some (.bool b) := by
          have : min2 r2 4 = 0 ∨ min2 r2 4 = 1 ∨ min2 r2 4 = 2 ∨ min2 r2 4 = 3 ∨ min2 r2 4 = 4 := by unfold min2; split <;> omega
          rcases this with e | e | e | e | e <;> rw [e] <;> exact ⟨_, rfl⟩
        apply w_set
        · apply e_frz
          apply e_ixL
          · apply e_ofN
            apply n_lst
            · apply a_cons
              · array_mem_dec
              · apply a_cons
                · array_mem_dec
                · apply a_cons
                  · array_mem_dec
                  · apply a_cons
                    · apply e_cmp
                      · array_mem_dec
                      · apply e_I
                        · array_mem_dec
                        · apply e_I
                          · array_mem_dec
                          · array_mem_dec
                          · exact k_mod (modP (by decide))
                        · exact k_sub
                      · exact k_eqI
                    · array_mem_dec
            · rfl
            · rfl
          · array_mem_dec
          · exact hb
        have fin : ∀ (z : Bool) (d5 : Dk3), W (bSeq (bIf (dTst (dVar 9)) (bSeq (bExpr (dLm 6 qAppend (dAc (dFrz (dVar 7)) dA0))) bNil) bNil) bNil)
            [.io (dk d5), .dat true (.int (most : Nat)), .dat true (.int (1 + r1)), .dat true (.int r2), .own (.lst (net.map fun r => dT r)), .dat true (.int (i : Nat)), .own (.lst (row.map PyData.int)), .dat true (.int (j : Nat)), .dat true (.int ((i : Nat) - (j : Nat))), .dat true (.bool z)]
            (fun w Γ2 => w = .nx ∧ ∃ s : List Int × Dk3, wipeG Γ2 [7, 8, 9] = [.io (dk s.2), .dat true (.int (most : Nat)), .dat true (.int (1 + r1)), .dat true (.int r2), .own (.lst (net.map fun r => dT r)), .dat true (.int (i : Nat)), .own (.lst (s.1.map PyData.int)), .un, .un, .un] ∧ s.1.length ≤ j + 1 ∧ (∀ e ∈ s.1, 0 ≤ e ∧ e < ((j + 1 : Nat) : Int)) ∧ s.1.Pairwise (· < ·)) := by
          intro z d5
          apply_assumption
          · intro _
            and_intros
            apply w_expr
            · apply e_ap
              · rfl
              · exact e_frz (e_var rfl)
              · rfl
              · exact ltS_map (by omega)
            and_intros
            refine w_nil ⟨rfl, (row ++ [(j : Int)], d5), by rw [List.map_append]; rfl, by simp; omega, fun e he => ?_, ?_⟩
            · rcases List.mem_append.mp he with h | h
              · have := g2 e h; omega
              · have : e = (j : Int) := by simpa using h
                omega
            · rw [List.pairwise_append]
              refine ⟨g3, by simp, fun a ha b hb => ?_⟩
              have h4 : b = (j : Int) := by simpa using hb
              have := (g2 a ha).2
              omega
          · intro _
            and_intros
            exact w_nil ⟨rfl, (row, d5), rfl, Nat.le_succ_of_le g1, fun e he => by have := g2 e he; omega, g3⟩
        have wk : ∀ {b : DS} {Γ : List Sl} {Q : Fw → List Sl → Prop} {R : List Sl → Prop}, W b Γ (fun w Γ2 => w = .nx ∧ R Γ2) → (∀ Γ2, R Γ2 → Q .nx Γ2) → W b Γ Q := fun h k => h.mono fun z hz => by
          obtain ⟨w, Γ2⟩ := z
          obtain ⟨rfl, h⟩ := hz
          exact k Γ2 h
        apply_assumption
        · intro hz
          have hz : 4 < r2 := by simpa using hz
          obtain ⟨q, d5, hq, q0, q1⟩ := take_t d4 (r2 - 3) (by omega) (by omega)
          bv_decide
          exact wk (fin _ d5) fun Γ2 ⟨s, e1, e2⟩ => ⟨s, e1, e2⟩
        · intro _
          and_intros
          exact wk (fin b d4) fun Γ2 ⟨s, e1, e2⟩ => ⟨s, e1, e2⟩
      · rintro ⟨row, d4⟩ ⟨g1, g2, g3⟩
        dsimp only at g1 g2 g3 ⊢
        apply w_expr
        · apply e_ap
          · rfl
          · apply e_frz
            apply e_B
            · exact a_cons (e_varO rfl) a_nil
            · exact k_tup rfl
          · rfl
          · exact ltS_map (by omega)
        exact w_nil ⟨(net ++ [row], d4), by rw [List.map_append]; rfl, by simp; omega, netOk_snoc hN (fun e he => by have := g2 e he; omega) g3⟩
    · rintro ⟨net, d4⟩ ⟨hl, hN⟩
      dsimp only at hl hN ⊢
      apply w_ret
      · exact e_B (a_cons (e_varO rfl) a_nil) (k_tup rfl)
      exact ⟨_, _, rfl, rfl, net, d4, rfl, hN, by omega, by omega⟩
  obtain ⟨z, e, net, d', rfl, h⟩ := key
  exact ⟨net, d', e, h⟩
end PD
set_option linter.all false
set_option maxRecDepth 100000
set_option autoImplicit false
namespace PD
open PySem L2
inductive BarD : PyData → List Int → Prop
  | l (ns : List Int) : BarD (dL ns) ns
  | t (ns : List Int) : BarD (dT ns) ns
  | n : BarD .none []
theorem some_q {bd : PyData} {ns : List Int} (h : BarD bd ns) : u_p_some_of [.d bd] = .val (.c (.lst (ns.map PyData.int)), [.un]) := by
  refine ok_eq (ok_run rfl ?_)
  unfold b_p_some_of
  cases h with
  | l ns =>
    bv_normalize
    apply w_retC
    · apply c_l
      apply n_B
      · array_mem_dec
      · exact k_list rfl (by show (false || _) = true; rw [Bool.false_or]; exact flatI ns)
    exact ⟨_, _, rfl, rfl, rfl⟩
  | t ns =>
    bv_normalize
    apply w_retC
    · apply c_l
      apply n_B
      · array_mem_dec
      · exact k_list rfl (by show (false || _) = true; rw [Bool.false_or]; exact flatI ns)
    exact ⟨_, _, rfl, rfl, rfl⟩
  | n =>
    simp_all_arith
    apply w_retC
    · array_mem_dec
    exact ⟨_, _, rfl, rfl, rfl⟩
end PD
set_option linter.all false
set_option maxRecDepth 100000
set_option maxHeartbeats 0
set_option autoImplicit false
namespace PD
open PySem L2
theorem mask_q (K : Nat) (hK : K ≤ 1000) (tp : Bool) (ms : List Int) (hm : ∀ x ∈ ms, 0 ≤ x ∧ x < (K : Int)) : ∃ b, u_p_mask_of [.d (mD tp ms)] = .val (.d (.int b), [.un]) ∧ Msk K b (fun j => (j : Int) ∈ ms) := by
  have key : Ok (u_p_mask_of [.d (mD tp ms)]) fun z => ∃ b, z = (.d (.int b), [.un]) ∧ Msk K b (fun j => (j : Int) ∈ ms) := by
    refine ok_run rfl ?_
    unfold b_p_mask_of
    have e0 : initS 3 [Ar.d (mD tp ms)] = [.dat false (mD tp ms), .un, .un] := by
      unfold initS arS; simp only [List.map_cons, sc_mD]; rfl
    rw [e0]
    bv_decide
    refine w_forL (enc := PyData.int) ms (S := Int) (fun i b => Msk K b (fun j => (j : Int) ∈ ms.take i)) (fun b => [.dat false (mD tp ms), .dat true (.int b), .un]) 0 (seq_mD rfl) rfl ((msk_zero K).iff fun j => by simp) ?_ ?_
    · rintro i x b hx hb
      have hx2 := hm x (mem_at hx)
      obtain ⟨j, rfl⟩ : ∃ j : Nat, x = (j : Int) := ⟨x.toNat, by omega⟩
      refine ⟨_, rfl, ?_⟩
      apply w_set
      · exact e_I (e_var rfl) (e_I e_C (e_var rfl) (k_shl (cShl_of (by omega) (by omega)))) k_or
      refine w_nil ⟨_, rfl, (msk_or hb (msk_one (show j < K by omega))).iff fun m => ?_⟩
      rw [take_step hx, List.mem_append]
      have : m = j ↔ (m : Int) ∈ [(j : Int)] := by simp; omega
      rw [this]
    · rintro b hb
      rw [List.take_length] at hb
      nofun
      exact ⟨_, _, rfl, rfl, b, rfl, hb⟩
  obtain ⟨z, e, b, rfl, h⟩ := key
  exact ⟨b, e, h⟩
end PD
set_option linter.all false
set_option maxRecDepth 100000
set_option maxHeartbeats 0
set_option autoImplicit false
namespace PD
open PySem L2
abbrev pI : Int × Int → PyData := fun z => .tuple [.int z.1, .int z.2]
abbrev sD (st : List (Int × Int)) : PyData := .tuple (st.map pI)
theorem makesOf_q (st : List (Int × Int)) (hl : st.length < 2 ^ 20) : u_p_makes_of [.d (sD st)] = .val (.d (dT (st.map (·.1))), [.un]) := by
  refine ok_eq (ok_run rfl ?_)
  unfold b_p_makes_of
  apply w_ret
  · apply e_B
    · apply a_cons
      · apply e_ofN
        exact n_map (enc := pI) st (fun z => .int z.1) (i_seqT (e_var rfl)) hl rfl fun x hx => ⟨_, rfl, rfl, e_frzT (e_var rfl) rfl⟩
      · exact a_nil
    · exact k_tup rfl
  refine ⟨_, _, rfl, rfl, ?_⟩
  show _ = (Rs.d (.tuple ((st.map (·.1)).map PyData.int)), _)
  rw [List.map_map]
  rfl
def spk (b : Int) (ans : Str) (m : Int) : Bool := if ans = Str.ofString "bad" then !inb b m else (decide (ans = Str.ofString "good") && inb b m)
theorem speaks_q (bs : List Int) (t : Nat) (b : Int) (ht : bs[t]? = some b) (ans : Str) (ha : PyData.strOk ans = true) (m : Int) (hm : 0 ≤ m) : u_p_speaks [.d (dL bs), .d (.tuple [.int (t : Nat), .str ans]), .d (.int m)] = .val (.d (.bool (spk b ans m)), [.un, .un, .un]) := by
  have ei := isIn_q b m hm
  refine ok_eq (ok_run rfl ?_)
  unfold b_p_speaks
  apply w_setG
  · exact e_frzT (e_var rfl) rfl
  · rfl
  have hix : ∀ s1 s4, eX (xCall uIsIn [] (dAc (dIxB (dVar 0) (dVar 3)) (dAc (dVar 2) dA0))) [.dat false (dL bs), s1, .dat true (.int m), .dat true (.int (t : Nat)), s4] = .val (.d true (.bool (inb b m)), [.dat false (dL bs), s1, .dat true (.int m), .dat true (.int (t : Nat)), s4]) := fun s1 s4 => e_x (x_call (a_cons (e_ixL (e_var rfl) (e_var rfl) (at_nat ht)) (a_cons (e_var rfl) a_nil)) rfl ei) rfl
  apply w_ifB
  · exact t_tst (e_cmp (e_var rfl) e_C (k_eqS ha (by decide +kernel)))
  · intro hz
    have hz : ans = Str.ofString "bad" := by simpa using hz
    and_intros
    apply w_ret
    · exact e_not (hix _ _)
    refine ⟨_, _, rfl, rfl, ?_⟩
    unfold spk
    rw [if_pos hz]
  · intro hz
    have hz : ¬ ans = Str.ofString "bad" := by simpa using hz
    and_intros
    apply w_ret
    · exact e_and (e_cmp (e_var rfl) e_C (k_eqS ha (by decide +kernel))) fun _ => hix _ _
    refine ⟨_, _, rfl, rfl, ?_⟩
    unfold spk
    rw [if_neg hz]
def behF (b : Int) (ans : Str) (lies : Int) (st : List (Int × Int)) : List (Int × Int) := (st.map fun z => (z.1, z.2 + b2n (spk b ans z.1))).filter fun z => decide (z.2 ≤ lies)
theorem behF_snoc (b : Int) (ans : Str) (lies : Int) (st : List (Int × Int)) (z : Int × Int) : behF b ans lies (st ++ [z]) = behF b ans lies st ++ (if z.2 + b2n (spk b ans z.1) ≤ lies then [(z.1, z.2 + b2n (spk b ans z.1))] else []) := by
  unfold behF
  rw [List.map_append, List.filter_append]
  congr 1
  by_cases h : z.2 + b2n (spk b ans z.1) ≤ lies <;> simp [h]
theorem behF_len (b : Int) (ans : Str) (lies : Int) (st : List (Int × Int)) : (behF b ans lies st).length ≤ st.length := by
  unfold behF
  have := List.length_filter_le (fun z : Int × Int => decide (z.2 ≤ lies)) (st.map fun z => (z.1, z.2 + b2n (spk b ans z.1)))
  rw [List.length_map] at this
  exact this
theorem behindBits_q (bs : List Int) (t : Nat) (b : Int) (ht : bs[t]? = some b) (ans : Str) (ha : PyData.strOk ans = true) (lies : Int) (st : List (Int × Int)) (hl : st.length ≤ 1000) (hm : ∀ z ∈ st, 0 ≤ z.1) : u_p_behind_bits [.d (dL bs), .d (sD st), .d (.tuple [.int (t : Nat), .str ans]), .d (.int lies)] = .val (.d (sD (behF b ans lies st)), [.un, .un, .un, .un]) := by
  refine ok_eq (ok_run rfl ?_)
  unfold b_p_behind_bits
  bv_decide
  refine w_forL (enc := pI) st (S := List (Int × Int)) (fun i s => s = behF b ans lies (st.take i)) (fun s => [.dat false (dL bs), .dat false (sD st), .dat false (.tuple [.int (t : Nat), .str ans]), .dat true (.int lies), .own (.lst (s.map pI)), .un, .un, .un]) [] (i_seqT (e_var rfl)) rfl rfl ?_ ?_
  · rintro i z s hz rfl
    have es := speaks_q bs t b ht ans ha z.1 (hm z (mem_at hz))
    have hlen := behF_len b ans lies (st.take i)
    rw [List.length_take] at hlen
    have hi := (List.getElem?_eq_some_iff.mp hz).1
    refine ⟨_, rfl, ?_⟩
    apply w_set
    · apply e_add
      · exact e_var rfl
      · apply e_B
        · exact a_cons (e_x (x_call (a_cons (e_var rfl) (a_cons (e_var rfl) (a_cons (e_var rfl) a_nil))) rfl es) rfl) a_nil
        · rfl
    apply_assumption
    · intro hc
      have hc : z.2 + b2n (spk b ans z.1) ≤ lies := by simpa using hc
      and_intros
      apply w_expr
      · apply e_ap
        · rfl
        · apply e_frz
          exact e_tup (a_cons (e_frzT (e_var rfl) rfl) (a_cons (e_frz (e_var rfl)) a_nil)) rfl rfl
        · rfl
        · exact ltS_map (by omega)
      and_intros
      refine w_nil ⟨_, ?_, rfl⟩
      rw [take_step hz, behF_snoc, if_pos hc, List.map_append]
      rfl
    · intro hc
      have hc : ¬ z.2 + b2n (spk b ans z.1) ≤ lies := by simpa using hc
      and_intros
      refine w_nil ⟨_, ?_, rfl⟩
      rw [take_step hz, behF_snoc, if_neg hc, List.append_nil]
      rfl
  · rintro s rfl
    rw [List.take_length]
    apply w_ret
    · exact e_B (a_cons (e_varO rfl) a_nil) (k_tup rfl)
    exact ⟨_, _, rfl, rfl, rfl⟩
end PD
set_option linter.all false
set_option maxRecDepth 100000
set_option maxHeartbeats 0
set_option autoImplicit false
namespace PD
open PySem L2
abbrev oneD (ks : List Int) : List (Int × PyData) := ks.map fun k => (k, PyData.bool true)
abbrev dOne (ks : List Int) : PyData := .dict (dKV (oneD ks))
theorem look_one (ks : List Int) (k : Int) : (lookI (oneD ks) k).isSome = decide (k ∈ ks) := by
  induction ks with
  | nil => rfl
  | cons x r ih =>
    show (lookI ((x, PyData.bool true) :: oneD r) k).isSome = _
    rw [lookI_cons]
    by_cases h : x = k
    · simp [h]
    · rw [if_neg h, ih]
      have : k ≠ x := fun z => h z.symm
      simp [this]
def addK (ks : List Int) (k : Int) : List Int := if k ∈ ks then ks else ks ++ [k]
theorem put_one (ks : List Int) (k : Int) : putI (oneD ks) k (.bool true) = oneD (addK ks k) := by
  unfold putI addK
  rw [any_lookI, look_one]
  by_cases h : k ∈ ks
  · rw [decide_eq_true h, if_pos rfl, if_pos h, List.map_map]
    apply List.map_congr_left
    intro z _
    by_cases e : z = k <;> simp [e]
  · rw [decide_eq_false h, if_neg (by simp), if_neg h]
    show oneD ks ++ [(k, PyData.bool true)] = (ks ++ [k]).map fun k => (k, PyData.bool true)
    rw [List.map_append]
    rfl
theorem add_mem {ks : List Int} {k y : Int} : y ∈ addK ks k ↔ y ∈ ks ∨ y = k := by
  unfold addK
  split
  · rename_i h
    constructor
    · exact .inl
    · rintro (h2 | rfl)
      · exact h2
      · exact h
  · simp
theorem add_nd {ks : List Int} {k : Int} (h : ks.Nodup) : (addK ks k).Nodup := by
  unfold addK
  split
  · exact h
  · rename_i hk
    rw [List.nodup_append]
    exact ⟨h, by simp, fun a ha b hb => by
      have : b = k := by simpa using hb
      subst this
      exact fun z => hk (by rw [← z]; exact ha)⟩
theorem add_ne {ks : List Int} {k : Int} : addK ks k ≠ [] := fun e => by
  have : k ∈ addK ks k := add_mem.mpr (.inr rfl)
  rw [e] at this
  cases this
theorem one_ne {ks : List Int} (h : ks ≠ []) : oneD ks ≠ [] := fun e => h (List.map_eq_nil_iff.mp e)
theorem k_inOne {Γ : List Sl} {fr fr2 : Bool} {k : Int} {ks : List Int} (h : ks ≠ []) : kInB Γ (.d fr (.int k)) (.d fr2 (dOne ks)) = .val (decide (k ∈ ks)) := by
  rw [← look_one]
  exact k_inKD (one_ne h)
theorem i_keyOne {Γ Γ1 : List Sl} {f : DF} {fr : Bool} {ks : List Int} (h1 : f Γ = .val (.d fr (dOne ks), Γ1)) (h : ks ≠ []) : iKeyD f Γ = .val ((ks.map PyData.int, true), Γ1) := by
  unfold iKeyD
  rw [h1, bind_val]
  unfold keyA
  simp only [kindKV (one_ne h)]
  show R.val (((dKV (oneD ks)).map (·.1), true), Γ1) = _
  congr 3
  simp [dKV, oneD, List.map_map, Function.comp_def]
theorem e_frzK {Γ Γ1 : List Sl} {f : DF} {m : Nat} {t : Dk} {kvs : List (PyData × PyData)} (h1 : f Γ = .val (.s m, Γ1)) (h2 : Γ1[m]? = some (.own (.dic t kvs))) : dFrzK f Γ = .val (.d true (.dict kvs), Γ1.set m (.dat true (.dict kvs))) := by
  unfold dFrzK; rw [h1, bind_val]; simp only [frzK, h2]
theorem e_apK {Γ Γ1 : List Sl} {f : DF} {d : PyData} {ds es : List PyData} {m : Nat} {io : Bool} (h0 : cellL Γ m = some (io, es)) (h1 : dFrzK f Γ = .val (.d true d, Γ1)) (h2 : cellL Γ1 m = some (io, ds)) (h3 : ltS ds = true) : dLm m qAppend (dAc (dFrzK f) dA0) Γ = .val (.d true .none, Γ1.set m (mkS io (.lst (ds ++ [d])))) := by
  unfold dLm
  rw [h0, ofO_some, bind_val, a_cons h1 a_nil, bind_val, h2, ofO_some, bind_val]
  show ((qAppend ds [.d true d]).bind _) = _
  unfold qAppend
  simp only [h3]
  rfl
def Ow (n : Nat) (ks : List Int) (P : Nat → Prop) : Prop := ks.Nodup ∧ (∀ y ∈ ks, 0 ≤ y ∧ y < (n : Int)) ∧ ks ≠ [] ∧ ∀ j : Nat, (j : Int) ∈ ks ↔ P j
theorem Ow.iff {n : Nat} {ks : List Int} {P Q : Nat → Prop} (h : Ow n ks P) (e : ∀ j, P j ↔ Q j) : Ow n ks Q := ⟨h.1, h.2.1, h.2.2.1, fun j => (h.2.2.2 j).trans (e j)⟩
theorem Ow.add {n : Nat} {ks : List Int} {P : Nat → Prop} (h : Ow n ks P) {k : Nat} (hk : k < n) : Ow n (addK ks (k : Int)) (fun j => P j ∨ j = k) := by
  refine ⟨add_nd h.1, fun y hy => ?_, add_ne, fun j => ?_⟩
  · rcases add_mem.mp hy with h2 | rfl
    · exact h.2.1 y h2
    · omega
  · rw [add_mem, h.2.2.2]
    constructor
    · rintro (h | h)
      · exact .inl h
      · exact .inr (by omega)
    · rintro (h | h)
      · exact .inl h
      · exact .inr (by omega)
theorem Ow.len {n : Nat} {ks : List Int} {P : Nat → Prop} (h : Ow n ks P) : ks.length ≤ n := nodup_len n ks h.1 h.2.1
def FromOk (net : List (List Int)) (rs : List (List Int)) : Prop := ∀ (k : Nat) (r : List Int), rs[k]? = some r → Ow (k + 1) r (Anc net k)
theorem from_t (net : List (List Int)) (hN : NetOk net) (hn : net.length ≤ 1000) : ∃ rs : List (List Int), u_qfrom [.d (dTT net)] = .val (.c (.lst (rs.map dOne)), [.un]) ∧ rs.length = net.length ∧ FromOk net rs := by
  have key : Ok (u_qfrom [.d (dTT net)]) fun z => ∃ rs : List (List Int), z = (.c (.lst (rs.map dOne)), [.un]) ∧ rs.length = net.length ∧ FromOk net rs := by
    refine ok_run rfl ?_
    unfold b_qfrom
    bv_decide
    refine w_forE (enc := fun r => dT r) net (S := List (List Int)) (fun i rs => rs.length = i ∧ FromOk net rs) (fun rs => [.dat false (dTT net), .own (.lst (rs.map dOne)), .un, .un, .un, .un, .un]) [] (i_enumT (e_var rfl)) rfl ⟨rfl, fun k r h => by simp at h⟩ ?_ ?_
    · rintro i row rs hrow ⟨hl, hA⟩
      have hi : i < net.length := (List.getElem?_eq_some_iff.mp hrow).1
      obtain ⟨hr1, hr2⟩ := hN i row hrow
      refine ⟨_, rfl, ?_⟩
      apply w_setX
      · exact x_c (show nDic1 2 (.bool true) _ = _ from rfl)
      refine w_forL (enc := PyData.int) row (S := List Int) (fun j ks => Ow (i + 1) ks (fun y => y = i ∨ ∃ e : Nat, (e : Int) ∈ row.take j ∧ Anc net e y)) (fun ks => [.dat false (dTT net), .own (.lst (rs.map dOne)), .dat false (.int (i : Nat)), .dat false (dT row), .own (.dic .k (dKV (oneD ks))), .un, .un]) [(i : Int)] (i_seqT (e_var rfl)) rfl ⟨by simp, by simp; omega, by simp, fun j => by simp; omega⟩ ?_ ?_
      · rintro j x ks hx hK
        have hx2 := hr1 x (mem_at hx)
        obtain ⟨m, rfl⟩ : ∃ m : Nat, x = (m : Int) := ⟨x.toNat, by omega⟩
        obtain ⟨r, hr⟩ : ∃ r, rs[m]? = some r := ⟨_, List.getElem?_eq_getElem (by omega)⟩
        have hR := hA m r hr
        refine ⟨_, rfl, ?_⟩
        refine w_forL (enc := PyData.int) r (S := List Int) (fun t ks => Ow (i + 1) ks (fun y => (y = i ∨ ∃ e : Nat, (e : Int) ∈ row.take j ∧ Anc net e y) ∨ (y : Int) ∈ r.take t)) (fun ks => [.dat false (dTT net), .own (.lst (rs.map dOne)), .dat false (.int (i : Nat)), .dat false (dT row), .own (.dic .k (dKV (oneD ks))), .dat false (.int (m : Nat)), .un]) ks (i_keyOne (e_ixS (e_varO rfl) (e_var rfl) rfl (at_nat hr)) hR.2.2.1) rfl (hK.iff fun y => by simp) ?_ ?_
        · rintro t y ks hy hK
          have hy2 := hR.2.1 y (mem_at hy)
          obtain ⟨b, rfl⟩ : ∃ b : Nat, y = (b : Int) := ⟨y.toNat, by omega⟩
          have hlen := hK.len
          refine ⟨_, rfl, ?_⟩
          apply w_put
          · exact e_C
          · rfl
          · exact e_var rfl
          · rfl
          · exact putC_kv (by rw [List.length_map]; omega)
          refine w_nil ⟨addK ks (b : Int), by rw [put_one]; rfl, (hK.add (show b < i + 1 by omega)).iff fun z => ?_⟩
          rw [take_step hy, List.mem_append]
          have : z = b ↔ (z : Int) ∈ [(b : Int)] := by simp; omega
          rw [this, or_assoc]
        · rintro ks hK
          rw [List.take_length] at hK
          refine w_nil ⟨ks, rfl, hK.iff fun y => ?_⟩
          rw [take_step hx, hR.2.2.2, or_assoc]
          constructor
          · rintro (h | ⟨e, h1, h2⟩ | h)
            · exact .inl h
            · exact .inr ⟨e, List.mem_append_left _ h1, h2⟩
            · exact .inr ⟨m, List.mem_append_right _ (by simp), h⟩
          · rintro (h | ⟨e, h1, h2⟩)
            · exact .inl h
            · rcases List.mem_append.mp h1 with h1 | h1
              · exact .inr (.inl ⟨e, h1, h2⟩)
              · have : e = m := by simp at h1; omega
                subst this
                exact .inr (.inr h2)
      · rintro ks hK
        rw [List.take_length] at hK
        apply w_expr
        · apply e_apK
          · rfl
          · exact e_frzK (e_varO rfl) rfl
          · rfl
          · exact ltS_map (by omega)
        refine w_nil ⟨rs ++ [ks], by rw [List.map_append]; rfl, by simp [hl], fun k r hk => ?_⟩
        by_cases hk2 : k < rs.length
        · rw [List.getElem?_append_left hk2] at hk
          exact hA k r hk
        · have hk3 : k < (rs ++ [ks]).length := (List.getElem?_eq_some_iff.mp hk).1
          have : k = i := by simp at hk3; omega
          subst this
          rw [List.getElem?_append_right (by omega), hl, Nat.sub_self] at hk
          have hk : ks = r := by simpa using hk
          subst hk
          exact hK.iff fun y => (anc_iff hrow).symm
    · rintro rs ⟨hl, hA⟩
      apply w_retO
      · rfl
      exact ⟨_, _, rfl, rfl, rs, rfl, hl, hA⟩
  obtain ⟨z, e, rs, rfl, h⟩ := key
  exact ⟨rs, e, h⟩
def ansL : List Str := ["good", "bad", "cannot"]
end PD
set_option linter.all false
set_option maxRecDepth 100000
set_option maxHeartbeats 0
set_option autoImplicit false
namespace PD
open PySem L2
abbrev Tr := Int × Str
def TrOk (n : Nat) (ts : List Tr) : Prop := ∀ q ∈ ts, 0 ≤ q.1 ∧ q.1 < (n : Int) ∧ q.2 ∈ ansL
theorem eqt_pI : EqT pI 1 := by
  have h := eqt_tup eqt_int
  refine ⟨fun x => h.1 [x.1, x.2], fun x => h.2 [x.1, x.2], fun x y => ?_⟩
  have := h.3 [x.1, x.2] [y.1, y.2]
  refine this.trans ?_
  rw [decide_eq_decide]
  constructor
  · intro e
    simp only [List.cons.injEq, and_true] at e
    exact Prod.ext e.1 e.2
  · rintro rfl; rfl
def spm (bs : List Int) (q : Tr) (m : Int) : Bool := match bs[q.1.toNat]? with
  | some b => spk b q.2 m
  | none => false
def cnt (bs : List Int) (ts : List Tr) (m : Int) : Int := ((ts.filter fun q => spm bs q m).length : Nat)
theorem rng_mem {n : Nat} {x : Int} : x ∈ rng 0 (n : Nat) ↔ 0 ≤ x ∧ x < (n : Int) := by
  constructor
  · intro h
    obtain ⟨i, hi⟩ := List.getElem?_of_mem h
    obtain ⟨rfl, h2⟩ := rng_at hi
    omega
  · rintro ⟨h1, h2⟩
    have hl : x.toNat < (rng 0 (n : Nat)).length := by rw [rng_len]; omega
    have := List.getElem?_eq_getElem hl
    have e := (rng_at this).1
    have hm := mem_at this
    rw [e] at hm
    have : ((x.toNat : Nat) : Int) = x := by omega
    rwa [this] at hm
section
variable (net : List (List Int)) (bs : List Int) (eb : uBitsOf [.d (dTT net)] = .val (.c (.lst (bs.map PyData.int)), [.un])) (hbl : bs.length = net.length) (hn : net.length ≤ 1000) (tp : Bool) (ts : List Tr) (hts : TrOk net.length ts) (hl : ts.length < 2 ^ 20) (lies : Int)
end
theorem rng_lo {a b x : Int} (h : x ∈ rng a b) : a ≤ x ∧ x < b := by
  unfold rng at h
  obtain ⟨k, hk, rfl⟩ := List.mem_map.mp h
  rw [List.mem_range] at hk
  omega
end PD
set_option linter.all false
set_option maxRecDepth 100000
set_option maxHeartbeats 0
set_option autoImplicit false
namespace PD
open PySem L2
section
variable (net : List (List Int)) (bs : List Int) (eb : uBitsOf [.d (dTT net)] = .val (.c (.lst (bs.map PyData.int)), [.un])) (hbl : bs.length = net.length) (hn : net.length ≤ 1000) (tp : Bool) (ts : List Tr) (hts : TrOk net.length ts) (hl : ts.length < 2 ^ 20) (lies : Int)
include eb hbl hn hts hl in
end
theorem b2n_nn (z : Bool) : 0 ≤ b2n z ∧ b2n z ≤ 1 := by cases z <;> decide
end PD
set_option linter.all false
set_option maxRecDepth 100000
set_option maxHeartbeats 0
set_option autoImplicit false
namespace PD
open PySem L2
inductive Pl where
  | lf (ms : List Int)
  | tr (m : Int) (b g : Pl)
theorem e_cat {Γ Γ1 Γ2 : List Sl} {f g : DF} {f1 f2 : Bool} {xs ys : List PyData} (h1 : f Γ = .val (.d f1 (.tuple xs), Γ1)) (h2 : g Γ1 = .val (.d f2 (.tuple ys), Γ2)) (h3 : szB (xs ++ ys) = true) : dAdd f g Γ = .val (.d (f1 && f2) (.tuple (xs ++ ys)), Γ2) := by
  unfold dAdd; rw [h1, bind_val, h2, bind_val]
  show (gq (szB (xs ++ ys)) _).bind _ = _
  rw [h3]; rfl
end PD
set_option linter.all false
set_option maxRecDepth 100000
set_option maxHeartbeats 0
set_option autoImplicit false
namespace PD
open PySem L2
abbrev rwB (n : Nat) (p : Int → Bool) : PyData := .list ((rng 0 (n : Nat)).map fun j => PyData.bool (p j))
end PD
set_option linter.all false
set_option maxRecDepth 100000
set_option maxHeartbeats 0
set_option autoImplicit false
namespace PD
open PySem L2
def room (lies : Int) : List (Int × Int) → Int
  | [] => 0
  | z :: st => (lies + 1 - z.2) + room lies st
theorem room_app (lies : Int) (st su : List (Int × Int)) : room lies (st ++ su) = room lies st + room lies su := by
  induction st with
  | nil => simp [room]
  | cons z r ih => simp only [List.cons_append, room, ih]; omega
theorem room_nn {lies : Int} {st : List (Int × Int)} (h : ∀ z ∈ st, z.2 ≤ lies) : (st.length : Int) ≤ room lies st := by
  induction st with
  | nil => simp [room]
  | cons z r ih =>
    have h1 := h z (by simp)
    have := ih fun y hy => h y (by simp [hy])
    simp only [room, List.length_cons]
    omega
theorem room_beh {lies : Int} {v : Int} {ans : Str} {st : List (Int × Int)} (h : ∀ z ∈ st, z.2 ≤ lies) : room lies (behF v ans lies st) ≤ room lies st ∧ ((∃ z ∈ st, spk v ans z.1 = true) → room lies (behF v ans lies st) < room lies st) := by
  induction st with
  | nil => exact ⟨Int.le_refl _, fun ⟨z, hz, _⟩ => by cases hz⟩
  | cons z r ih =>
    have h1 := h z (by simp)
    obtain ⟨i1, i2⟩ := ih fun y hy => h y (by simp [hy])
    have hb := b2n_nn (spk v ans z.1)
    have e : behF v ans lies (z :: r) = (if z.2 + b2n (spk v ans z.1) ≤ lies then [(z.1, z.2 + b2n (spk v ans z.1))] else []) ++ behF v ans lies r := by
      unfold behF
      rw [List.map_cons, List.filter_cons]
      by_cases hc : z.2 + b2n (spk v ans z.1) ≤ lies <;> simp [hc]
    have hx : room lies (if z.2 + b2n (spk v ans z.1) ≤ lies then [(z.1, z.2 + b2n (spk v ans z.1))] else []) ≤ lies + 1 - z.2 - b2n (spk v ans z.1) := by
      split
      · simp only [room]; omega
      · simp only [room]; omega
    rw [e, room_app]
    simp only [room]
    refine ⟨by omega, ?_⟩
    rintro ⟨y, hy, hs⟩
    rcases List.mem_cons.mp hy with rfl | hy
    · have : b2n (spk v ans y.1) = 1 := by rw [hs]; rfl
      omega
    · have := i2 ⟨y, hy, hs⟩
      omega
def cmc (bs : List Int) (st : List (Int × Int)) (k : Int) : Nat := (st.filter fun z => inb (bs[k.toNat]?.getD 0) z.1).length
def usf (n : Nat) (bs : List Int) (st : List (Int × Int)) (shut : List Int) : List Int := (rng 0 (n : Nat)).filter fun k => !decide (k ∈ shut) && (decide (0 < (cmc bs st k : Int)) && decide ((cmc bs st k : Int) < (st.length : Nat)))
theorem usf_len (n : Nat) (bs : List Int) (st : List (Int × Int)) (shut : List Int) : (usf n bs st shut).length ≤ n := by
  unfold usf
  refine Nat.le_trans (List.length_filter_le _ _) ?_
  rw [rng_len]; omega
theorem e_chainBU {f g k : DF} {r r' : Int → Int → Bool} {Γ Γ1 Γ2 : List Sl} {a b c : Bool} {i j l : Int} (h1 : f Γ = .val (.d a (.int i), Γ1)) (h2 : g Γ1 = .val (.d b (.int j), Γ2)) (h3 : k Γ2 = .val (.d c (.int l), Γ2)) : dChain r r' f g k Γ = .val (.d true (.bool (r i j && r' j l)), Γ2) := by
  unfold dChain
  rw [h1, bind_val, h2, bind_val]
  show (if r i j = true then _ else _) = _
  cases h : r i j with
  | true => rw [if_pos rfl, h3]; rfl
  | false => rfl
end PD
set_option linter.all false
set_option maxRecDepth 100000
set_option maxHeartbeats 0
set_option autoImplicit false
namespace PD
open PySem L2
theorem t_andY {Γ Γ1 Γ2 : List Sl} {t t2 : DT} {z z2 : Bool} (h1 : t Γ = .val (z, Γ1)) (hz : z = true) (h2 : t2 Γ1 = .val (z2, Γ2)) : dTand t t2 Γ = .val (z2, Γ2) := by
  subst hz
  unfold dTand; rw [h1, bind_val]
  show ((t2 Γ1).bind _) = _
  rw [h2]; rfl
theorem t_andN {Γ Γ1 : List Sl} {t t2 : DT} {z : Bool} (h1 : t Γ = .val (z, Γ1)) (hz : z = false) : dTand t t2 Γ = .val (false, Γ1) := by
  subst hz
  unfold dTand; rw [h1, bind_val]; rfl
theorem cmc_pos {bs : List Int} {st : List (Int × Int)} {k : Nat} {v : Int} (hv : bs[k]? = some v) : (0 < (cmc bs st (k : Nat) : Int)) ↔ ∃ z ∈ st, inb v z.1 = true := by
  unfold cmc
  rw [Int.toNat_natCast, hv]
  simp only [Option.getD_some]
  rw [show ((0 : Int) < ((st.filter fun z => inb v z.1).length : Nat)) ↔ 0 < (st.filter fun z => inb v z.1).length by omega, List.length_pos_iff_exists_mem]
  constructor
  · rintro ⟨z, hz⟩
    exact ⟨z, (List.mem_filter.mp hz).1, (List.mem_filter.mp hz).2⟩
  · rintro ⟨z, h1, h2⟩
    exact ⟨z, List.mem_filter.mpr ⟨h1, h2⟩⟩
theorem cmc_lt {bs : List Int} {st : List (Int × Int)} {k : Nat} {v : Int} (hv : bs[k]? = some v) : ((cmc bs st (k : Nat) : Int) < (st.length : Nat)) ↔ ∃ z ∈ st, inb v z.1 = false := by
  unfold cmc
  rw [Int.toNat_natCast, hv]
  simp only [Option.getD_some]
  rw [show (((st.filter fun z => inb v z.1).length : Nat) : Int) < (st.length : Nat) ↔ (st.filter fun z => inb v z.1).length < st.length by omega, List.length_filter_lt_length_iff_exists]
  constructor
  · rintro ⟨z, h1, h2⟩
    exact ⟨z, h1, by simpa using h2⟩
  · rintro ⟨z, h1, h2⟩
    exact ⟨z, h1, by simp [h2]⟩
end PD
set_option linter.all false
set_option maxRecDepth 100000
set_option autoImplicit false
namespace PD
open PySem L2
end PD
set_option linter.all false
set_option maxRecDepth 100000
set_option maxHeartbeats 0
set_option autoImplicit false
namespace PD
open PySem L2
end PD
set_option linter.all false
set_option maxRecDepth 100000
set_option maxHeartbeats 0
set_option autoImplicit false
namespace PDW
open PySem L2 PD
structure NKey {κ : Type} (kD : κ → PyData) : Prop where
  ok : ∀ k, nkOk (kD k) = true
  inj : ∀ a b, nkD (kD a) = nkD (kD b) → a = b
  eq : ∀ a, eqN (kD a) (kD a) = true
section
variable {κ ω : Type} {kD : κ → PyData} {vD : ω → PyData}
abbrev nD (kD : κ → PyData) (vD : ω → PyData) (l : List (κ × ω)) : List (PyData × PyData) := l.map fun z => (kD z.1, vD z.2)
theorem decN_nD (E : NKey kD) (l : List (κ × ω)) : decN (encN (nD kD vD l)) = some (nD kD vD l) := by
  unfold encN decN
  show decL ((nD kD vD l).flatMap fun z => [(z.1, z.2), (.none, z.1)]) = _
  induction l with
  | nil => rfl
  | cons z r ih =>
    show decL ((kD z.1, vD z.2) :: (.none, kD z.1) :: (nD kD vD r).flatMap fun z => [(z.1, z.2), (.none, z.1)]) = _
    rw [decL, if_pos (E.eq z.1), ih]
    rfl
def lkp [DecidableEq κ] (l : List (κ × ω)) (k : κ) : Option ω := (l.find? fun z => decide (z.1 = k)).map (·.2)
theorem nk_eq (E : NKey kD) [DecidableEq κ] (a b : κ) : decide (nkD (kD a) = nkD (kD b)) = decide (a = b) := by
  rw [decide_eq_decide]
  exact ⟨E.inj a b, fun h => by rw [h]⟩
theorem getN_nD (E : NKey kD) [DecidableEq κ] (l : List (κ × ω)) (k : κ) : getN (nD kD vD l) (kD k) = (lkp l k).map vD := by
  unfold getN lkp
  induction l with
  | nil => rfl
  | cons z r ih =>
    simp only [List.map_cons, List.find?_cons, nk_eq E]
    by_cases h : z.1 = k
    · simp [h]
    · simp only [h, decide_false]
      exact ih
theorem lkp_none [DecidableEq κ] (l : List (κ × ω)) (k : κ) : lkp l k = none ↔ k ∉ l.map (·.1) := by
  unfold lkp
  rw [Option.map_eq_none_iff, List.find?_eq_none]
  constructor
  · intro h hm
    obtain ⟨z, hz, e⟩ := List.mem_map.mp hm
    exact absurd (decide_eq_true e) (h z hz)
  · intro h z hz e
    exact h (List.mem_map.mpr ⟨z, hz, of_decide_eq_true e⟩)
theorem lkp_some [DecidableEq κ] {l : List (κ × ω)} {k : κ} {v : ω} (h : lkp l k = some v) : (k, v) ∈ l := by
  unfold lkp at h
  cases e : l.find? fun z => decide (z.1 = k) with
  | none => rw [e] at h; cases h
  | some z =>
    rw [e] at h
    cases h
    have h1 := List.mem_of_find?_eq_some e
    have h2 := List.find?_some e
    have h2 := of_decide_eq_true h2
    rw [← h2]; exact h1
theorem lkp_mem [DecidableEq κ] {l : List (κ × ω)} {k : κ} (h : k ∈ l.map (·.1)) : ∃ v, lkp l k = some v ∧ (k, v) ∈ l := by
  cases e : lkp l k with
  | none => exact absurd h ((lkp_none l k).mp e)
  | some v => exact ⟨v, rfl, lkp_some e⟩
theorem lkp_isSome [DecidableEq κ] (l : List (κ × ω)) (k : κ) : (lkp l k).isSome = decide (k ∈ l.map (·.1)) := by
  cases e : lkp l k with
  | none => rw [decide_eq_false ((lkp_none l k).mp e)]; rfl
  | some v => rw [decide_eq_true (List.mem_map.mpr ⟨_, lkp_some e, rfl⟩)]; rfl
theorem putN_new (E : NKey kD) [DecidableEq κ] (l : List (κ × ω)) (k : κ) (v : ω) (h : k ∉ l.map (·.1)) : putN (nD kD vD l) (kD k) (vD v) = nD kD vD (l ++ [(k, v)]) := by
  unfold putN
  have : ((nD kD vD l).any fun z => decide (nkD z.1 = nkD (kD k))) = false := by
    rw [List.any_eq_false]
    intro z hz
    obtain ⟨y, hy, rfl⟩ := List.mem_map.mp hz
    simp only [nk_eq E]
    intro e
    exact h (List.mem_map.mpr ⟨y, hy, of_decide_eq_true e⟩)
  rw [this]
  simp
def putK' [DecidableEq κ] (l : List (κ × ω)) (k : κ) (v : ω) : List (κ × ω) := if k ∈ l.map (·.1) then l.map (fun z => if z.1 = k then (z.1, v) else z) else l ++ [(k, v)]
theorem putN_nD (E : NKey kD) [DecidableEq κ] (l : List (κ × ω)) (k : κ) (v : ω) : putN (nD kD vD l) (kD k) (vD v) = nD kD vD (putK' l k v) := by
  by_cases h : k ∈ l.map (·.1)
  · unfold putN putK'
    have : ((nD kD vD l).any fun z => decide (nkD z.1 = nkD (kD k))) = true := by
      rw [List.any_eq_true]
      obtain ⟨z, hz, e⟩ := List.mem_map.mp h
      exact ⟨_, List.mem_map.mpr ⟨z, hz, rfl⟩, by rw [nk_eq E]; exact decide_eq_true e⟩
    rw [this, if_pos h, if_pos rfl]
    show ((l.map fun z => (kD z.1, vD z.2)).map fun z => if nkD z.1 = nkD (kD k) then (z.1, vD v) else z) = (l.map (fun z => if z.1 = k then (z.1, v) else z)).map fun z => (kD z.1, vD z.2)
    rw [List.map_map, List.map_map]
    apply List.map_congr_left
    intro z _
    show (if nkD (kD z.1) = nkD (kD k) then (kD z.1, vD v) else (kD z.1, vD z.2)) = _
    by_cases e : z.1 = k
    · rw [if_pos (by rw [e])]; simp [e]
    · rw [if_neg (fun q => e (E.inj _ _ q))]; simp [e]
  · rw [putN_new E l k v h]
    unfold putK'
    rw [if_neg h]
variable {f g : DF} {Γ Γ1 Γ2 : List Sl} {fr fr2 : Bool} {m : Nat}
theorem ndA_d (E : NKey kD) (l : List (κ × ω)) : ndA Γ (.d fr (.dict (encN (nD kD vD l)))) = some (fr, nD kD vD l) := by
  show (decN (encN (nD kD vD l))).map _ = _
  rw [decN_nD E]; rfl
theorem ndA_own (E : NKey kD) (l : List (κ × ω)) (h : Γ[m]? = some (.own (.dic .n (encN (nD kD vD l))))) : ndA Γ (.s m) = some (true, nD kD vD l) := by
  unfold ndA
  simp only [h]
  rw [decN_nD E]; rfl
theorem ndA_io (E : NKey kD) (l : List (κ × ω)) (h : Γ[m]? = some (.io (.dic .n (encN (nD kD vD l))))) : ndA Γ (.s m) = some (true, nD kD vD l) := by
  unfold ndA
  simp only [h]
  rw [decN_nD E]; rfl
theorem e_ixN (E : NKey kD) [DecidableEq κ] {x : AV} {l : List (κ × ω)} {k : κ} {v : ω} (h1 : f Γ = .val (x, Γ1)) (h2 : g Γ1 = .val (.d fr2 (kD k), Γ2)) (h3 : ndA Γ2 x = some (fr, nD kD vD l)) (h4 : lkp l k = some v) : dIxN f g Γ = .val (.d fr (vD v), Γ2) := by
  unfold dIxN
  rw [h1, bind_val, h2, bind_val]
  unfold ixN'
  rw [h3]
  simp only [E.ok k, getN_nD E, h4]
  rfl
theorem k_inN (E : NKey kD) [DecidableEq κ] {x y : AV} {l : List (κ × ω)} {k : κ} {neg : Bool} (h1 : rdD Γ x = some (kD k)) (h3 : ndA Γ y = some (fr, nD kD vD l)) : kInN neg Γ x y = .val (decide (k ∈ l.map (·.1)) != neg) := by
  unfold kInN
  rw [h3]
  simp only [h1, E.ok k, getN_nD E, Option.isSome_map, lkp_isSome]
  rfl
theorem w_putN (E : NKey kD) [DecidableEq κ] {fe fi : DF} {r : DS} {l l' : List (κ × ω)} {k : κ} {v : ω} {c0 : Bool × Cl} {io : Bool} {P : Fw → List Sl → Prop} (h1 : dFrz fe Γ = .val (.d true (vD v), Γ1)) (h2 : cellC Γ1 m = some c0) (h3 : fi Γ1 = .val (.d true (kD k), Γ2)) (h4 : cellC Γ2 m = some (io, .dic .n (encN (nD kD vD l)))) (hl : l.length < 2 ^ 20) (hp : putK' l k v = l') (h : W r (Γ2.set m (mkS io (.dic .n (encN (nD kD vD l'))))) P) : W (bSeq (bPutN m fe fi) r) Γ P := w_one ⟨_, by
  unfold bPutN
  rw [h1, bind_val, h2, ofO_some, bind_val, h3, bind_val, h4, ofO_some, bind_val]
  have hc : putNC (.dic .n (encN (nD kD vD l))) (kD k) (vD v) = some (.dic .n (encN (nD kD vD l'))) := by
    unfold putNC
    simp only [decN_nD E, putN_nD E, E.ok k, hp]
    have : decide ((nD kD vD l).length < sizeLine) = true := by
      apply decide_eq_true
      have : (2 : Nat) ^ 20 ≤ sizeLine := by decide
      rw [List.length_map]; omega
    rw [this]; rfl
  simp only [hc]
  rfl, h⟩
theorem i_keyN (E : NKey kD) {l : List (κ × ω)} (h1 : f Γ = .val (.d fr (.dict (encN (nD kD vD l))), Γ1)) : iKeyN f Γ = .val (((l.map (·.1)).map kD, fr), Γ1) := by
  unfold iKeyN
  rw [h1, bind_val]
  show (R.ofO ((decN (encN (nD kD vD l))).map _)).bind _ = _
  rw [decN_nD E, Option.map_some, ofO_some, bind_val, List.map_map, List.map_map]
  rfl
theorem e_frzKD {d : PyData} (h1 : f Γ = .val (.d true d, Γ1)) : dFrzK f Γ = .val (.d true d, Γ1) := by unfold dFrzK; rw [h1]; rfl
theorem e_frzKO {t : Dk} {kvs : List (PyData × PyData)} (h1 : f Γ = .val (.s m, Γ1)) (h2 : Γ1[m]? = some (.own (.dic t kvs))) : dFrzK f Γ = .val (.d true (.dict kvs), Γ1.set m (.dat true (.dict kvs))) := by
  unfold dFrzK; rw [h1, bind_val]; unfold frzK; simp only [h2]
theorem e_xKc {x : DX} {t : Dk} {kvs : List (PyData × PyData)} (h1 : x Γ = .val (.c (.dic t kvs), Γ1)) : eXK x Γ = .val (.d true (.dict kvs), Γ1) := by unfold eXK; rw [h1]; rfl
theorem k_sortD {x : AV} {ds : List PyData} (h1 : srtA Γ x = some (ds, true)) (h2 : sortOk ds = true) : kSortD Γ [x] = .val (sortDl ds) := by
  unfold kSortD
  simp only [h1]
  show gq (sortOk ds) (sortDl ds) = _
  rw [h2]; rfl
theorem srtA_l {ds : List PyData} : srtA Γ (.d fr (.list ds)) = some (ds, fr) := rfl
end
theorem nkDs_ints (z : Int × Int) : nkD (pI z) = some (.tup [.num z.1, .num z.2]) := by
  simp [nkD, nkDs]
theorem nkDs_st : ∀ st : List (Int × Int), nkDs (st.map pI) = some (st.map fun z => .tup [.num z.1, .num z.2])
  | [] => by rw [List.map_nil, nkDs]; rfl
  | z :: r => by
    rw [List.map_cons, nkDs, nkDs_ints, nkDs_st r]; rfl
theorem nkD_st (st : List (Int × Int)) : nkD (sD st) = some (.tup (st.map fun z => .tup [.num z.1, .num z.2])) := by
  rw [sD, nkD, nkDs_st]; rfl
theorem nkd_dep (st : List (Int × Int)) : NestedKey.depthAll (st.map fun z => NestedKey.tup [.num z.1, .num z.2]) ≤ 1 := by
  induction st with
  | nil => exact Nat.zero_le _
  | cons z r ih =>
    rw [List.map_cons, NestedKey.depthAll]
    refine Nat.max_le.mpr ⟨?_, ih⟩
    simp [NestedKey.depth, NestedKey.depthAll]
theorem eqN_st : ∀ st : List (Int × Int), eqNs (st.map pI) (st.map pI) = true
  | [] => by rw [List.map_nil, eqNs]
  | z :: r => by
    rw [List.map_cons, eqNs, eqN_st r, Bool.and_true]
    simp [eqN, eqNs]
theorem nk_st : NKey sD where
  ok st := by
    unfold nkOk
    show (match nkD (sD st) with | some kk => decide (kk.depth ≤ 8) | none => false) = true
    rw [nkD_st]
    apply decide_eq_true
    rw [NestedKey.depth]
    have := nkd_dep st
    omega
  inj a b h := by
    rw [nkD_st, nkD_st] at h
    have h := NestedKey.tup.inj (Option.some.inj h)
    have key : ∀ a b : List (Int × Int), a.map (fun z => NestedKey.tup [.num z.1, .num z.2]) = b.map (fun z => NestedKey.tup [.num z.1, .num z.2]) → a = b := by
      intro a
      induction a with
      | nil => intro b h; cases b with
        | nil => rfl
        | cons y r => cases h
      | cons x r ih =>
        intro b h
        cases b with
        | nil => cases h
        | cons y s =>
          have h1 := (List.cons.inj h).1
          have h2 := ih s (List.cons.inj h).2
          simp only [NestedKey.tup.injEq, List.cons.injEq, NestedKey.num.injEq, and_true] at h1
          obtain ⟨x1, x2⟩ := x
          obtain ⟨y1, y2⟩ := y
          dsimp only at h1
          rw [h1.1, h1.2, h2]
    exact key a b h
  eq st := by rw [eqN]; exact eqN_st st
end PDW
set_option linter.all false
set_option maxRecDepth 100000
set_option autoImplicit false
namespace PD
open PySem L2
def b_p_useful_bits : DS := (bSeq (bSet 3 (eX (xCall u_p_mask_of [] (dAc (dVar 1) dA0)))) (bSeq (bRetC (nL (nComp [4] (gN 4) (iRange1 (dB kLen (dAc (dVar 0) dA0))) (dTand (dTst (dCmp kNinB (dVar 4) (dVar 2))) (dTst (dChain (fun i j => decide (i < j)) (fun i j => decide (i < j)) (dC (.int 0)) (dI kAnd (dIxB (dVar 0) (dVar 4)) (dVar 3)) (dVar 3)))) (dFrz (dVar 4))))) bNil))
def u_p_useful_bits : List Ar → R (Rs × List Sl) := runB 5 3 b_p_useful_bits
def b_p_ways_on : DS := (bSeq (bSetX 4 (xC (nL (dLst dA0)))) (bSeq (bFor [5, 6] (gN 5) (iSeq (eX (xCall u_p_useful_bits [] (dAc (dVar 0) (dAc (eX (xCall u_p_makes_of [] (dAc (dVar 1) dA0))) (dAc (dVar 2) dA0)))))) (bSeq (bSet 6 (eX (xCall u_p_behind_bits [] (dAc (dVar 0) (dAc (dVar 1) (dAc (dTup (dAc (dFrz (dVar 5)) (dAc (dC (.str "bad")) dA0))) (dAc (dVar 3) dA0))))))) (bSeq (bExpr (dLm 4 qAppend (dAc (dFrz (dTup (dAc (dFrz (dVar 5)) (dAc (dFrz (dVar 6)) (dAc (eX (xCall u_p_behind_bits [] (dAc (dVar 0) (dAc (dVar 1) (dAc (dTup (dAc (dFrz (dVar 5)) (dAc (dC (.str "good")) dA0))) (dAc (dVar 3) dA0)))))) dA0))))) dA0))) bNil))) (bSeq (bRetO 4) bNil)))
def u_p_ways_on : List Ar → R (Rs × List Sl) := runB 7 4 b_p_ways_on
def b_p_all_ways : DS := (bSeq (bSetX 4 (xC (nDic0 .n))) (bSeq (bSetX 5 (xC (nL (dLst (dAc (dFrz (dVar 1)) dA0))))) (bSeq (bWhile [6, 7, 8, 9] (fun _ => 1000000) (dTst (dCmp kNe (dVar 5) (dOfN (dLst dA0)))) (bSeq (bSet 6 (dLm 5 qPop dA0)) (bSeq (bIf (dTst (dCmp (kInN true) (dVar 6) (dVar 4))) (bSeq (bPutN 4 (eX (xCall u_p_ways_on [] (dAc (dVar 0) (dAc (dVar 6) (dAc (dVar 2) (dAc (dVar 3) dA0)))))) (dVar 6)) (bSeq (bFor [7, 8, 9] (gT3 (gN 7) (gN 8) (gN 9)) (iSeq (dIxN (dVar 4) (dVar 6))) (bSeq (bExpr (dExt 5 (dLst (dAc (dFrz (dVar 8)) (dAc (dFrz (dVar 9)) dA0))))) bNil)) bNil)) bNil) bNil))) (bSeq (bRetO 4) bNil))))
def u_p_all_ways : List Ar → R (Rs × List Sl) := runB 10 4 b_p_all_ways
def b_p_priced : DS := (bSeq (bIf (dTst (dCmp kIs (dVar 1) (dC .none))) (bSeq (bRetC (nL (nComp [2] (gN 2) (iSeq (dVar 0)) tYes (dC (.int 1))))) bNil) bNil) (bSeq (bRetC (nL (dBN kList (dAc (dVar 1) dA0)))) bNil))
def u_p_priced : List Ar → R (Rs × List Sl) := runB 3 2 b_p_priced
def b_p_room_in : DS := (bSeq (bRet (dB kSum (dAc (dOfN (nComp [2, 3] (gT2 (gN 2) (gN 3)) (iSeq (dVar 0)) tYes (dFrz (dI kSub (dAdd (dVar 1) (dC (.int 1))) (dVar 3))))) dA0))) bNil)
def u_p_room_in : List Ar → R (Rs × List Sl) := runB 4 2 b_p_room_in
def b_p_best_way : DS := (bSeq (bSet 3 (dTup (dAc (dC (.int 0)) (dAc (dC .none) dA0)))) (bSeq (bFor [4, 5, 6, 7] (gT3 (gN 4) (gN 5) (gN 6)) (iSeq (dVar 0)) (bSeq (bSet 7 (dAdd (dIxB (dVar 2) (dVar 4)) (dB kMax2 (dAc (dIxB (dIxN (dVar 1) (dVar 5)) (dC (.int 0))) (dAc (dIxB (dIxN (dVar 1) (dVar 6)) (dC (.int 0))) dA0))))) (bSeq (bIf (dTor (dTst (dCmp kIs (dIxB (dVar 3) (dC (.int 1))) (dC .none))) (dTst (dCmp (kI fun i j => decide (i < j)) (dVar 7) (dIxB (dVar 3) (dC (.int 0)))))) (bSeq (bSet 3 (dTup (dAc (dFrz (dVar 7)) (dAc (dFrz (dVar 4)) dA0)))) bNil) bNil) bNil))) (bSeq (bRet (dVar 3)) bNil)))
def u_p_best_way : List Ar → R (Rs × List Sl) := runB 8 3 b_p_best_way
def b_p_best_of : DS := (bSeq (bSet 5 (eX (xCall uBitsOf [] (dAc (dVar 0) dA0)))) (bSeq (bSet 6 (eX (xCall u_p_some_of [] (dAc (dVar 2) dA0)))) (bSeq (bIf (dTand (dTst (dCmp (kI fun i j => decide (j < i)) (dB kLen (dAc (dVar 1) dA0)) (dIxG [.int 10, .int 6, .int 4, .int 3] (dVar 3)))) (dTst (dCmp kNe (eX (xCall u_p_useful_bits [] (dAc (dVar 5) (dAc (eX (xCall u_p_makes_of [] (dAc (dVar 1) dA0))) (dAc (dVar 6) dA0))))) (dOfN (dLst dA0))))) (bSeq (bRaise "TooGreat" ["many"] (dAc (dB kLen (dAc (dVar 1) dA0)) dA0)) bNil) bNil) (bSeq (bSet 7 (eXK (xCallM u_p_all_ways [false, true, false, false] [] (dAc (dVar 5) (dAc (dFrz (dVar 1)) (dAc (dVar 6) (dAc (dVar 3) dA0))))))) (bSeq (bSet 8 (eX (xCall u_p_priced [] (dAc (dVar 0) (dAc (dVar 4) dA0))))) (bSeq (bSetX 9 (xC (nDic0 .n))) (bSeq (bFor [10, 11] (gT2 (gN 10) (gN 11)) (iSeq (dOfN (dBN kSortD (dAc (dOfN (nComp [12] (gN 12) (iKeyN (dFrzK (dVar 7))) tYes (dFrz (dTup (dAc (eX (xCall u_p_room_in [] (dAc (dVar 12) (dAc (dVar 3) dA0)))) (dAc (dFrz (dVar 12)) dA0)))))) dA0)))) (bSeq (bPutN 9 (eX (xCallC u_p_best_way 1 [] (dAc (dIxN (dVar 7) (dVar 11)) (dAc (dVar 9) (dAc (dVar 8) dA0))))) (dVar 11)) bNil)) (bSeq (bRetO 9) bNil))))))))
def u_p_best_of : List Ar → R (Rs × List Sl) := runB 13 5 b_p_best_of
def b_p_number_of : DS := (bSeq (bRet (dIxB (dIxN (eXK (xCallM u_p_best_of [false, true, false, false, false] [] (dAc (dVar 0) (dAc (dFrz (dVar 1)) (dAc (dVar 2) (dAc (dVar 3) (dAc (dVar 4) dA0))))))) (dVar 1)) (dC (.int 0)))) bNil)
def u_p_number_of : List Ar → R (Rs × List Sl) := runB 5 5 b_p_number_of
end PD
set_option linter.all false
set_option maxRecDepth 100000
set_option autoImplicit false
namespace PD
open PySem L2
def b_qprices_k53 : DS := (bSeq (bIf (dTst (dCmp kEq (eX (xCallC u_qtake 0 [] (dAc (dVar 0) (dAc (dC (.int 2)) dA0)))) (dC (.int 0)))) (bSeq (bRet (dC .none)) bNil) bNil) (bSeq (bSetX 2 (xC (nL (dLst dA0)))) (bSeq (bFor [3, 4] (gN 3) (iSeq (dVar 1)) (bSeq (bSet 4 (dOfN (dLst (dAc (dC (.int 1)) (dAc (dC (.int 2)) (dAc (dC (.int 3)) (dAc (dAdd (dC (.int 1)) (eX (xCallC u_qtake 0 [] (dAc (dVar 0) (dAc (dC (.int 9)) dA0))))) (dAc (dI kPow (dC (.int 10)) (dC (.int 30))) (dAc (dAdd (dC (.int 1)) (dI kPow (eX (xCallC u_qtake 0 [] (dAc (dVar 0) (dAc (dI kPow (dC (.int 10)) (dC (.int 15))) dA0)))) (dC (.int 2)))) dA0))))))))) (bSeq (bExpr (dLm 2 qAppend (dAc (dFrz (dIxB (dVar 4) (eX (xCallC u_qtake 0 [] (dAc (dVar 0) (dAc (dC (.int 6)) dA0)))))) dA0))) bNil))) (bSeq (bRetO 2) bNil))))
def u_qprices_k53 : List Ar → R (Rs × List Sl) := runB 5 2 b_qprices_k53
def b_qstar : DS := (bSeq (bSet 2 (dFrz (dIxB (dOfN (dLst (dAc (dC (.int 10)) (dAc (dC (.int 6)) (dAc (dC (.int 4)) (dAc (dC (.int 3)) dA0)))))) (dVar 1)))) (bSeq (bSet 3 (dAdd (dTup (dAc (dTup dA0) dA0)) (dRepT (dTup (dAc (dTup (dAc (dC (.int 0)) dA0)) dA0)) (dAdd (dVar 2) (dC (.int 1)))))) (bSeq (bSetX 4 (xC (nL (dLrng1 (dAdd (dVar 2) (dC (.int 2))))))) (bSeq (bFor [5] (gN 5) (iRange1 (dC (.int 2))) (bSeq (bExpr (dLm 4 qPopAt (dAc (eX (xCallC u_qtake 0 [] (dAc (dVar 0) (dAc (dB kLen (dAc (dVar 4) dA0)) dA0)))) dA0))) bNil)) (bSeq (bSetX 6 (xC (nL (dLrng1 (dAdd (dVar 2) (dC (.int 2))))))) (bSeq (bFor [5] (gN 5) (iRange1 (dC (.int 4))) (bSeq (bExpr (dLm 6 qPopAt (dAc (eX (xCallC u_qtake 0 [] (dAc (dVar 0) (dAc (dB kLen (dAc (dVar 6) dA0)) dA0)))) dA0))) bNil)) (bFrz 4 (bSeq (bRet (dTup (dAc (dFrz (dVar 3)) (dAc (dB kTuple (dAc (dOfN (nComp [7] (gN 7) (iSeq (dVar 4)) tYes (dFrz (dTup (dAc (dFrz (dVar 7)) (dAc (eX (xCallC u_qtake 0 [] (dAc (dVar 0) (dAc (dAdd (dVar 1) (dC (.int 1))) dA0)))) dA0)))))) dA0)) (dAc (dFrz (dVar 6)) (dAc (dFrz (dVar 1)) (dAc (eX (xCallC u_qprices_k53 0 [] (dAc (dVar 0) (dAc (dVar 3) dA0)))) dA0))))))) bNil))))))))
def u_qstar : List Ar → R (Rs × List Sl) := runB 8 2 b_qstar
def b_qstand_k53 : DS := (bSeq (bSetX 3 (xC (nL (dLrng1 (dB kLen (dAc (dVar 1) dA0)))))) (bSeq (bSetX 4 (xC (nL (dLst dA0)))) (bSeq (bFor [5] (gN 5) (iRange1 (dAdd (dC (.int 1)) (eX (xCallC u_qtake 0 [] (dAc (dVar 0) (dAc (dB kMin2 (dAc (dIxB (dOfN (dLst (dAc (dC (.int 7)) (dAc (dC (.int 4)) (dAc (dC (.int 3)) (dAc (dC (.int 2)) dA0)))))) (dVar 2)) (dAc (dB kLen (dAc (dVar 1) dA0)) dA0))) dA0)))))) (bSeq (bExpr (dLm 4 qAppend (dAc (dFrz (dLm 3 qPopAt (dAc (eX (xCallC u_qtake 0 [] (dAc (dVar 0) (dAc (dB kLen (dAc (dVar 3) dA0)) dA0)))) dA0))) dA0))) bNil)) (bSeq (bRet (dB kTuple (dAc (dOfN (nComp [6] (gN 6) (iSeq (dOfN (dBN kSorted (dAc (dVar 4) dA0)))) tYes (dFrz (dTup (dAc (dFrz (dVar 6)) (dAc (eX (xCallC u_qtake 0 [] (dAc (dVar 0) (dAc (dAdd (dVar 2) (dC (.int 1))) dA0)))) dA0)))))) dA0))) bNil))))
def u_qstand_k53 : List Ar → R (Rs × List Sl) := runB 7 3 b_qstand_k53
def b_qbarred_k53 : DS := (bSeq (bSet 2 (dFrz (dIxB (dOfN (dLst (dAc (dC (.int 0)) (dAc (dC (.int 0)) (dAc (dC (.int 1)) (dAc (dC (.int 8)) dA0)))))) (eX (xCallC u_qtake 0 [] (dAc (dVar 0) (dAc (dC (.int 4)) dA0))))))) (bSeq (bSetX 3 (xC (nL (dLst dA0)))) (bSeq (bFor [4, 5] (gN 4) (iRange1 (dB kLen (dAc (dVar 1) dA0))) (bSeq (bIf (dTst (dCmp (kI fun i j => decide (i < j)) (eX (xCallC u_qtake 0 [] (dAc (dVar 0) (dAc (dC (.int 8)) dA0)))) (dVar 2))) (bSeq (bFor [5] (gN 5) (iRange1 (dAdd (dC (.int 1)) (eX (xCallC u_qtake 0 [] (dAc (dVar 0) (dAc (dC (.int 2)) dA0)))))) (bSeq (bExpr (dLm 3 qInsert (dAc (eX (xCallC u_qtake 0 [] (dAc (dVar 0) (dAc (dAdd (dB kLen (dAc (dVar 3) dA0)) (dC (.int 1))) dA0)))) (dAc (dFrz (dVar 4)) dA0)))) bNil)) bNil) bNil) bNil)) (bSeq (bRetO 3) bNil))))
def u_qbarred_k53 : List Ar → R (Rs × List Sl) := runB 6 2 b_qbarred_k53
def b_qdrawn : DS := (bSeq (bSet 1 (eX (xCallC u_qnet_k12 0 [] (dAc (dVar 0) (dAc (dC (.int 12)) dA0))))) (bSeq (bSet 2 (dFrz (dIxB (dOfN (dLst (dAc (dC (.int 0)) (dAc (dC (.int 0)) (dAc (dC (.int 1)) (dAc (dC (.int 1)) (dAc (dC (.int 2)) (dAc (dC (.int 3)) dA0)))))))) (eX (xCallC u_qtake 0 [] (dAc (dVar 0) (dAc (dC (.int 6)) dA0))))))) (bSeq (bSet 3 (eX (xCallC u_qtake 0 [] (dAc (dVar 0) (dAc (dC (.int 16)) dA0))))) (bSeq (bIf (dTst (dCmp kEq (dVar 3) (dC (.int 7)))) (bSeq (bRetX (xCallC u_qstar 0 [] (dAc (dVar 0) (dAc (dVar 2) dA0)))) bNil) bNil) (bSeq (bSet 4 (eX (xCallC u_qstand_k53 0 [] (dAc (dVar 0) (dAc (dVar 1) (dAc (dVar 2) dA0)))))) (bSeq (bIf (dTst (dCmp (kI fun i j => decide (j < i)) (dVar 3) (dC (.int 13)))) (bSeq (bSet 1 (dAdd (dTup (dAc (dTup dA0) dA0)) (dB kTuple (dAc (dOfN (nComp [6] (gN 6) (iRange1 (eX (xCallC u_qtake 0 [] (dAc (dVar 0) (dAc (dC (.int 10)) dA0))))) tYes (dFrz (dTup (dAc (dFrz (dVar 6)) dA0))))) dA0)))) (bSeq (bSet 2 (dC (.int 0))) (bSeq (bSet 4 (dB kTuple (dAc (dOfN (nComp [6] (gN 6) (iRange1 (dB kLen (dAc (dVar 1) dA0))) tYes (dFrz (dTup (dAc (dFrz (dVar 6)) (dAc (dC (.int 0)) dA0)))))) dA0))) bNil))) bNil) (bSeq (bSet 5 (eX (xCallC u_qbarred_k53 0 [] (dAc (dVar 0) (dAc (dVar 1) dA0))))) (bSeq (bRet (dTup (dAc (dFrz (dVar 1)) (dAc (dFrz (dVar 4)) (dAc (dFrz (dVar 5)) (dAc (dFrz (dVar 2)) (dAc (eX (xCallC u_qprices_k53 0 [] (dAc (dVar 0) (dAc (dVar 1) dA0)))) dA0))))))) bNil))))))))
def u_qdrawn : List Ar → R (Rs × List Sl) := runB 7 1 b_qdrawn
end PD
set_option Elab.async false
set_option linter.all false
set_option maxRecDepth 100000
set_option maxHeartbeats 0
set_option autoImplicit false
namespace PDW
open PySem PySem.Spec PyProof.Rows L2 PD
def top (i : Nat) : Stmt := PySem.Challenge.pw_badbegins_k51_never_more_for_less.main.body.getD i (.Pass ⟨0, 0, 0, 0⟩)
structure Env (K : PySem.W.Frag) (mg : Str → Option Value) : Prop where
  d_p_law : ∃ f fd, FunD K "law" "law" (defArgs (top 38)) (defBody (top 38)) (defScope (top 38)) [] [] f fd ∧ mg "law" = some (.ref f)
  d_qfeed : ∃ f fd, FunD K "_law_feed" "_law_feed" (defArgs (top 25)) (defBody (top 25)) (defScope (top 25)) [] [] f fd ∧ mg "_law_feed" = some (.ref f)
  d_qcell_at : ∃ f fd, FunD K "_law_cell_at" "_law_cell_at" (defArgs (top 24)) (defBody (top 24)) (defScope (top 24)) [] [] f fd ∧ mg "_law_cell_at" = some (.ref f)
  d_qdrawn : ∃ f fd, FunD K "_law_drawn" "_law_drawn" (defArgs (top 33)) (defBody (top 33)) (defScope (top 33)) [] [] f fd ∧ mg "_law_drawn" = some (.ref f)
  d_qnet : ∃ f fd, FunD K "_law_net" "_law_net" (defArgs (top 27)) (defBody (top 27)) (defScope (top 27)) [] [] f fd ∧ mg "_law_net" = some (.ref f)
  d_qtake : ∃ f fd, FunD K "_law_take" "_law_take" (defArgs (top 26)) (defBody (top 26)) (defScope (top 26)) [] [] f fd ∧ mg "_law_take" = some (.ref f)
  d_qstar : ∃ f fd, FunD K "_law_star" "_law_star" (defArgs (top 32)) (defBody (top 32)) (defScope (top 32)) [] [] f fd ∧ mg "_law_star" = some (.ref f)
  d_qprices : ∃ f fd, FunD K "_law_prices" "_law_prices" (defArgs (top 31)) (defBody (top 31)) (defScope (top 31)) [] [] f fd ∧ mg "_law_prices" = some (.ref f)
  d_qstand : ∃ f fd, FunD K "_law_stand" "_law_stand" (defArgs (top 29)) (defBody (top 29)) (defScope (top 29)) [] [] f fd ∧ mg "_law_stand" = some (.ref f)
  d_qbarred : ∃ f fd, FunD K "_law_barred" "_law_barred" (defArgs (top 30)) (defBody (top 30)) (defScope (top 30)) [] [] f fd ∧ mg "_law_barred" = some (.ref f)
  d_qright : ∃ f fd, FunD K "_law_right" "_law_right" (defArgs (top 37)) (defBody (top 37)) (defScope (top 37)) [] [] f fd ∧ mg "_law_right" = some (.ref f)
  d_p_number_of : ∃ f fd, FunD K "number_of" "number_of" (defArgs (top 22)) (defBody (top 22)) (defScope (top 22)) [V.non, V.int 0, V.non] [] f fd ∧ mg "number_of" = some (.ref f)
  d_p_best_of : ∃ f fd, FunD K "best_of" "best_of" (defArgs (top 21)) (defBody (top 21)) (defScope (top 21)) [] [] f fd ∧ mg "best_of" = some (.ref f)
  d_p_bits_of : ∃ f fd, FunD K "bits_of" "bits_of" (defArgs (top 4)) (defBody (top 4)) (defScope (top 4)) [] [] f fd ∧ mg "bits_of" = some (.ref f)
  d_p_some_of : ∃ f fd, FunD K "some_of" "some_of" (defArgs (top 6)) (defBody (top 6)) (defScope (top 6)) [] [] f fd ∧ mg "some_of" = some (.ref f)
  d_p_useful_bits : ∃ f fd, FunD K "useful_bits" "useful_bits" (defArgs (top 16)) (defBody (top 16)) (defScope (top 16)) [] [] f fd ∧ mg "useful_bits" = some (.ref f)
  d_p_mask_of : ∃ f fd, FunD K "mask_of" "mask_of" (defArgs (top 5)) (defBody (top 5)) (defScope (top 5)) [] [] f fd ∧ mg "mask_of" = some (.ref f)
  d_p_makes_of : ∃ f fd, FunD K "makes_of" "makes_of" (defArgs (top 12)) (defBody (top 12)) (defScope (top 12)) [] [] f fd ∧ mg "makes_of" = some (.ref f)
  d_p_all_ways : ∃ f fd, FunD K "all_ways" "all_ways" (defArgs (top 18)) (defBody (top 18)) (defScope (top 18)) [] [] f fd ∧ mg "all_ways" = some (.ref f)
  d_p_ways_on : ∃ f fd, FunD K "ways_on" "ways_on" (defArgs (top 17)) (defBody (top 17)) (defScope (top 17)) [] [] f fd ∧ mg "ways_on" = some (.ref f)
  d_p_behind_bits : ∃ f fd, FunD K "behind_bits" "behind_bits" (defArgs (top 11)) (defBody (top 11)) (defScope (top 11)) [] [] f fd ∧ mg "behind_bits" = some (.ref f)
  d_p_speaks : ∃ f fd, FunD K "speaks" "speaks" (defArgs (top 9)) (defBody (top 9)) (defScope (top 9)) [] [] f fd ∧ mg "speaks" = some (.ref f)
  d_p_is_in : ∃ f fd, FunD K "is_in" "is_in" (defArgs (top 7)) (defBody (top 7)) (defScope (top 7)) [] [] f fd ∧ mg "is_in" = some (.ref f)
  d_p_priced : ∃ f fd, FunD K "priced" "priced" (defArgs (top 15)) (defBody (top 15)) (defScope (top 15)) [] [] f fd ∧ mg "priced" = some (.ref f)
  d_p_room_in : ∃ f fd, FunD K "room_in" "room_in" (defArgs (top 19)) (defBody (top 19)) (defScope (top 19)) [] [] f fd ∧ mg "room_in" = some (.ref f)
  d_p_best_way : ∃ f fd, FunD K "best_way" "best_way" (defArgs (top 20)) (defBody (top 20)) (defScope (top 20)) [] [] f fd ∧ mg "best_way" = some (.ref f)
  d_qlesser : ∃ f fd, FunD K "_law_lesser" "_law_lesser" (defArgs (top 34)) (defBody (top 34)) (defScope (top 34)) [] [] f fd ∧ mg "_law_lesser" = some (.ref f)
  d_qdearer : ∃ f fd, FunD K "_law_dearer" "_law_dearer" (defArgs (top 35)) (defBody (top 35)) (defScope (top 35)) [] [] f fd ∧ mg "_law_dearer" = some (.ref f)
  d_qclasses : ∃ f fd, FunD K "_law_classes" "_law_classes" (defArgs (top 36)) (defBody (top 36)) (defScope (top 36)) [] [] f fd ∧ mg "_law_classes" = some (.ref f)
  d_qfrom : ∃ f fd, FunD K "_law_from" "_law_from" (defArgs (top 28)) (defBody (top 28)) (defScope (top 28)) [] [] f fd ∧ mg "_law_from" = some (.ref f)
  b_range : mg "range" = none
  b_max : mg "max" = none
  b_min : mg "min" = none
  b_len : mg "len" = none
  b_tuple : mg "tuple" = none
  b_list : mg "list" = none
  b_sorted : mg "sorted" = none
  b_enumerate : mg "enumerate" = none
  b_int : mg "int" = none
  b_sum : mg "sum" = none
  t_MOST : GT K mg "MOST" [.int 10, .int 6, .int 4, .int 3] [.int 10, .int 6, .int 4, .int 3]
  x_all : XAll K mg ["TooGreat"] [] [] ["many"]
  hunt : HuntC K (He.ga K "HuntError") ∧ mg "HuntError" = some (.ref (He.ga K "HuntError"))
  i_TooGreat : ∃ fd, FunD K "__init__" "TooGreat.__init__" (defArgs (clsInit (top 2))) (defBody (clsInit (top 2))) (defScope (clsInit (top 2))) [] [] (He.fAd K ("TooGreat", some "__init__")) fd
  j_TooGreat : IniC K "TooGreat"
theorem sc_qcell_at : FnScope ["_law_script", "_law_k"] ["_law_script", "_law_k"] (defScope (top 24)) := ⟨rfl, rfl, rfl, by decide +kernel, rfl, by decide +kernel, by decide +kernel⟩
theorem fo_qcell_at {P : Program} {w : World} {K : PySem.W.Frag} {mg : Str → Option Value} {base : Heap} (E : Env K mg) {f : Addr} {fd : FuncData} (F : FunD K "_law_cell_at" "_law_cell_at" (defArgs (top 24)) (defBody (top 24)) (defScope (top 24)) [] [] f fd) : FnOk P w K mg base (L2.CX P w) (0 + 1) f fd ["_law_script", "_law_k"] (spU K mg u_qcell_at) := by
  refine fn_u (N := ["_law_script", "_law_k"]) (ps := ["_law_script", "_law_k"]) (k := 0) F sc_qcell_at (b := b_qcell_at) (by decide) fun X W h => ?_
  have C := h.cf
  have hb_len : X.mg "len" = none := by rw [h.mg]; exact E.b_len
  have n0 : (["_law_script", "_law_k"] : List Str)[0]? = some ("_law_script" : Str) := rfl
  have v0 : visB (defScope (top 24)) "_law_script" = true := by decide +kernel
  have s0 : Sto X (defScope (top 24)) "_law_script" := sto_c h.fn (by decide +kernel)
  have n1 : (["_law_script", "_law_k"] : List Str)[1]? = some ("_law_k" : Str) := rfl
  have v1 : visB (defScope (top 24)) "_law_k" = true := by decide +kernel
  have s1 : Sto X (defScope (top 24)) "_law_k" := sto_c h.fn (by decide +kernel)
  unfold b_qcell_at
  exact (cs_cons (c1_if (ct_cmp (ce_lt (ce_var C.toCf0 1 n1 (by decide +kernel)) (ce_len C.toCf0 (by decide +kernel) hb_len (ca_cons (ce_var C.toCf0 0 n0 (by decide +kernel)) ca_nil)))) (cs_cons (c1_ret (ce_ixB C.toCf0 (ce_var C.toCf0 0 n0 (by decide +kernel)) (ce_var C.toCf0 1 n1 (by decide +kernel)))) cs_nil) cs_nil) (cs_cons (c1_ret ce_int) cs_nil))
theorem ok_qcell_at {P : Program} {w : World} {K : PySem.W.Frag} {mg : Str → Option Value} {base : Heap} (E : Env K mg) : Gv P w K mg base (0 + 1) "_law_cell_at" [] (spU K mg u_qcell_at) := by
  obtain ⟨f, fd, F, hmg⟩ := E.d_qcell_at
  exact Gv.of F hmg (fo_qcell_at E F) (F.bindsN fun _ _ _ _ _ _ us hl => match us, hl with | [_, _], _ => rfl) .nil
theorem sc_qfeed : FnScope ["_law_script", "_law_k"] ["_law_script", "_law_k"] (defScope (top 25)) := ⟨rfl, rfl, rfl, by decide +kernel, rfl, by decide +kernel, by decide +kernel⟩
theorem fo_qfeed {P : Program} {w : World} {K : PySem.W.Frag} {mg : Str → Option Value} {base : Heap} (E : Env K mg) {f : Addr} {fd : FuncData} (F : FunD K "_law_feed" "_law_feed" (defArgs (top 25)) (defBody (top 25)) (defScope (top 25)) [] [] f fd) : FnOk P w K mg base (L2.CX P w) (1 + 1) f fd ["_law_script", "_law_k"] (spU K mg u_qfeed) := by
  refine fn_u (N := ["_law_script", "_law_k"]) (ps := ["_law_script", "_law_k"]) (k := 1) F sc_qfeed (b := b_qfeed) (by decide) fun X W h => ?_
  have C := h.cf
  have c_qcell_at := (ok_qcell_at (P := P) (w := w) (base := base) E).u h (by omega)
  have n0 : (["_law_script", "_law_k"] : List Str)[0]? = some ("_law_script" : Str) := rfl
  have v0 : visB (defScope (top 25)) "_law_script" = true := by decide +kernel
  have s0 : Sto X (defScope (top 25)) "_law_script" := sto_c h.fn (by decide +kernel)
  have n1 : (["_law_script", "_law_k"] : List Str)[1]? = some ("_law_k" : Str) := rfl
  have v1 : visB (defScope (top 25)) "_law_k" = true := by decide +kernel
  have s1 : Sto X (defScope (top 25)) "_law_k" := sto_c h.fn (by decide +kernel)
  unfold b_qfeed
  exact (cs_cons (c1_retC (cc_l (cn_lst (ca_cons (ce_x (cx_call C.toCf0 c_qcell_at (by decide +kernel) (fun _ _ => .nil) (ca_cons (ce_var C.toCf0 0 n0 (by decide +kernel)) (ca_cons (ce_var C.toCf0 1 n1 (by decide +kernel)) ca_nil)))) (ca_cons ce_int (ca_cons (ce_frz (ce_var C.toCf0 1 n1 (by decide +kernel))) ca_nil)))))) cs_nil)
theorem ok_qfeed {P : Program} {w : World} {K : PySem.W.Frag} {mg : Str → Option Value} {base : Heap} (E : Env K mg) : Gv P w K mg base (1 + 1) "_law_feed" [] (spU K mg u_qfeed) := by
  obtain ⟨f, fd, F, hmg⟩ := E.d_qfeed
  exact Gv.of F hmg (fo_qfeed E F) (F.bindsN fun _ _ _ _ _ _ us hl => match us, hl with | [_, _], _ => rfl) .nil
theorem sc_qtake : FnScope ["_law_feed_here", "_law_many", "_law_digit", "_law_number"] ["_law_feed_here", "_law_many"] (defScope (top 26)) := ⟨rfl, rfl, rfl, by decide +kernel, rfl, by decide +kernel, by decide +kernel⟩
theorem fo_qtake {P : Program} {w : World} {K : PySem.W.Frag} {mg : Str → Option Value} {base : Heap} (E : Env K mg) {f : Addr} {fd : FuncData} (F : FunD K "_law_take" "_law_take" (defArgs (top 26)) (defBody (top 26)) (defScope (top 26)) [] [] f fd) : FnOk P w K mg base (L2.CX P w) (0 + 1) f fd ["_law_feed_here", "_law_many"] (spU K mg u_qtake) := by
  refine fn_u (N := ["_law_feed_here", "_law_many", "_law_digit", "_law_number"]) (ps := ["_law_feed_here", "_law_many"]) (k := 0) F sc_qtake (b := b_qtake) (by decide) fun X W h => ?_
  have C := h.cf
  have n0 : (["_law_feed_here", "_law_many", "_law_digit", "_law_number"] : List Str)[0]? = some ("_law_feed_here" : Str) := rfl
  have v0 : visB (defScope (top 26)) "_law_feed_here" = true := by decide +kernel
  have s0 : Sto X (defScope (top 26)) "_law_feed_here" := sto_c h.fn (by decide +kernel)
  have n1 : (["_law_feed_here", "_law_many", "_law_digit", "_law_number"] : List Str)[1]? = some ("_law_many" : Str) := rfl
  have v1 : visB (defScope (top 26)) "_law_many" = true := by decide +kernel
  have s1 : Sto X (defScope (top 26)) "_law_many" := sto_c h.fn (by decide +kernel)
  have n2 : (["_law_feed_here", "_law_many", "_law_digit", "_law_number"] : List Str)[2]? = some ("_law_digit" : Str) := rfl
  have v2 : visB (defScope (top 26)) "_law_digit" = true := by decide +kernel
  have s2 : Sto X (defScope (top 26)) "_law_digit" := sto_c h.fn (by decide +kernel)
  have n3 : (["_law_feed_here", "_law_many", "_law_digit", "_law_number"] : List Str)[3]? = some ("_law_number" : Str) := rfl
  have v3 : visB (defScope (top 26)) "_law_number" = true := by decide +kernel
  have s3 : Sto X (defScope (top 26)) "_law_number" := sto_c h.fn (by decide +kernel)
  unfold b_qtake
  exact (cs_cons (c1_put C.toCf0 0 n0 v0 (ce_add (ce_ixB C.toCf0 (ce_var C.toCf0 0 n0 (by decide +kernel)) ce_int) ce_int) ce_int) (cs_cons (c1_if (ct_cmp (ce_ge (ce_ixB C.toCf0 (ce_var C.toCf0 0 n0 (by decide +kernel)) ce_int) (ce_pow ce_int ce_int))) (cs_cons (c1_set C.toCf0 2 n2 s2 (ce_mod (ce_ixB C.toCf0 (ce_var C.toCf0 0 n0 (by decide +kernel)) ce_int) (ce_var C.toCf0 1 n1 (by decide +kernel)))) (cs_cons (c1_put C.toCf0 0 n0 v0 (ce_fdiv (ce_ixB C.toCf0 (ce_var C.toCf0 0 n0 (by decide +kernel)) ce_int) (ce_var C.toCf0 1 n1 (by decide +kernel))) ce_int) (cs_cons (c1_ret (ce_var C.toCf0 2 n2 (by decide +kernel))) cs_nil))) cs_nil) (cs_cons (c1_set C.toCf0 3 n3 s3 (ce_add (ce_add (ce_add (ce_mod (ce_ixB C.toCf0 (ce_var C.toCf0 0 n0 (by decide +kernel)) ce_int) ce_int) (ce_mul ce_int (ce_ixB C.toCf0 (ce_var C.toCf0 0 n0 (by decide +kernel)) ce_int))) (ce_mul ce_int (ce_ixB C.toCf0 (ce_var C.toCf0 0 n0 (by decide +kernel)) ce_int))) ce_int)) (cs_cons (c1_set C.toCf0 3 n3 s3 (ce_mod (ce_mul (ce_var C.toCf0 3 n3 (by decide +kernel)) ce_int) ce_int)) (cs_cons (c1_ret (ce_mod (ce_fdiv (ce_mod (ce_mul (ce_var C.toCf0 3 n3 (by decide +kernel)) (ce_add (ce_var C.toCf0 3 n3 (by decide +kernel)) ce_int)) ce_int) ce_int) (ce_var C.toCf0 1 n1 (by decide +kernel)))) cs_nil)))))
theorem ok_qtake {P : Program} {w : World} {K : PySem.W.Frag} {mg : Str → Option Value} {base : Heap} (E : Env K mg) : Gv P w K mg base (0 + 1) "_law_take" [] (spU K mg u_qtake) := by
  obtain ⟨f, fd, F, hmg⟩ := E.d_qtake
  exact Gv.of F hmg (fo_qtake E F) (F.bindsN fun _ _ _ _ _ _ us hl => match us, hl with | [_, _], _ => rfl) .nil
theorem sc_qnet : FnScope ["_law_feed_here", "_law_most", "_law_many", "_law_way", "_law_net_here", "_law_make", "_law_elders", "_law_elder", "_law_near", "_law_hangs"] ["_law_feed_here", "_law_most"] (defScope (top 27)) := ⟨rfl, rfl, rfl, by decide +kernel, rfl, by decide +kernel, by decide +kernel⟩
theorem fo_qnet {P : Program} {w : World} {K : PySem.W.Frag} {mg : Str → Option Value} {base : Heap} (E : Env K mg) {f : Addr} {fd : FuncData} (F : FunD K "_law_net" "_law_net" (defArgs (top 27)) (defBody (top 27)) (defScope (top 27)) [] [] f fd) : FnOk P w K mg base (L2.CX P w) (1 + 1) f fd ["_law_feed_here", "_law_most"] (spU K mg u_qnet_k12) := by
  refine fn_u (N := ["_law_feed_here", "_law_most", "_law_many", "_law_way", "_law_net_here", "_law_make", "_law_elders", "_law_elder", "_law_near", "_law_hangs"]) (ps := ["_law_feed_here", "_law_most"]) (k := 1) F sc_qnet (b := b_qnet_k12) (by decide) fun X W h => ?_
  have C := h.cf
  have hb_range : X.mg "range" = none := by rw [h.mg]; exact E.b_range
  have hb_min : X.mg "min" = none := by rw [h.mg]; exact E.b_min
  have hb_tuple : X.mg "tuple" = none := by rw [h.mg]; exact E.b_tuple
  have c_qtake := (ok_qtake (P := P) (w := w) (base := base) E).u h (by omega)
  have n0 : (["_law_feed_here", "_law_most", "_law_many", "_law_way", "_law_net_here", "_law_make", "_law_elders", "_law_elder", "_law_near", "_law_hangs"] : List Str)[0]? = some ("_law_feed_here" : Str) := rfl
  have v0 : visB (defScope (top 27)) "_law_feed_here" = true := by decide +kernel
  have s0 : Sto X (defScope (top 27)) "_law_feed_here" := sto_c h.fn (by decide +kernel)
  have n1 : (["_law_feed_here", "_law_most", "_law_many", "_law_way", "_law_net_here", "_law_make", "_law_elders", "_law_elder", "_law_near", "_law_hangs"] : List Str)[1]? = some ("_law_most" : Str) := rfl
  have v1 : visB (defScope (top 27)) "_law_most" = true := by decide +kernel
  have s1 : Sto X (defScope (top 27)) "_law_most" := sto_c h.fn (by decide +kernel)
  have n2 : (["_law_feed_here", "_law_most", "_law_many", "_law_way", "_law_net_here", "_law_make", "_law_elders", "_law_elder", "_law_near", "_law_hangs"] : List Str)[2]? = some ("_law_many" : Str) := rfl
  have v2 : visB (defScope (top 27)) "_law_many" = true := by decide +kernel
  have s2 : Sto X (defScope (top 27)) "_law_many" := sto_c h.fn (by decide +kernel)
  have n3 : (["_law_feed_here", "_law_most", "_law_many", "_law_way", "_law_net_here", "_law_make", "_law_elders", "_law_elder", "_law_near", "_law_hangs"] : List Str)[3]? = some ("_law_way" : Str) := rfl
  have v3 : visB (defScope (top 27)) "_law_way" = true := by decide +kernel
  have s3 : Sto X (defScope (top 27)) "_law_way" := sto_c h.fn (by decide +kernel)
  have n4 : (["_law_feed_here", "_law_most", "_law_many", "_law_way", "_law_net_here", "_law_make", "_law_elders", "_law_elder", "_law_near", "_law_hangs"] : List Str)[4]? = some ("_law_net_here" : Str) := rfl
  have v4 : visB (defScope (top 27)) "_law_net_here" = true := by decide +kernel
  have s4 : Sto X (defScope (top 27)) "_law_net_here" := sto_c h.fn (by decide +kernel)
  have n5 : (["_law_feed_here", "_law_most", "_law_many", "_law_way", "_law_net_here", "_law_make", "_law_elders", "_law_elder", "_law_near", "_law_hangs"] : List Str)[5]? = some ("_law_make" : Str) := rfl
  have v5 : visB (defScope (top 27)) "_law_make" = true := by decide +kernel
  have s5 : Sto X (defScope (top 27)) "_law_make" := sto_c h.fn (by decide +kernel)
  have n6 : (["_law_feed_here", "_law_most", "_law_many", "_law_way", "_law_net_here", "_law_make", "_law_elders", "_law_elder", "_law_near", "_law_hangs"] : List Str)[6]? = some ("_law_elders" : Str) := rfl
  have v6 : visB (defScope (top 27)) "_law_elders" = true := by decide +kernel
  have s6 : Sto X (defScope (top 27)) "_law_elders" := sto_c h.fn (by decide +kernel)
  have n7 : (["_law_feed_here", "_law_most", "_law_many", "_law_way", "_law_net_here", "_law_make", "_law_elders", "_law_elder", "_law_near", "_law_hangs"] : List Str)[7]? = some ("_law_elder" : Str) := rfl
  have v7 : visB (defScope (top 27)) "_law_elder" = true := by decide +kernel
  have s7 : Sto X (defScope (top 27)) "_law_elder" := sto_c h.fn (by decide +kernel)
  have n8 : (["_law_feed_here", "_law_most", "_law_many", "_law_way", "_law_net_here", "_law_make", "_law_elders", "_law_elder", "_law_near", "_law_hangs"] : List Str)[8]? = some ("_law_near" : Str) := rfl
  have v8 : visB (defScope (top 27)) "_law_near" = true := by decide +kernel
  have s8 : Sto X (defScope (top 27)) "_law_near" := sto_c h.fn (by decide +kernel)
  have n9 : (["_law_feed_here", "_law_most", "_law_many", "_law_way", "_law_net_here", "_law_make", "_law_elders", "_law_elder", "_law_near", "_law_hangs"] : List Str)[9]? = some ("_law_hangs" : Str) := rfl
  have v9 : visB (defScope (top 27)) "_law_hangs" = true := by decide +kernel
  have s9 : Sto X (defScope (top 27)) "_law_hangs" := sto_c h.fn (by decide +kernel)
  unfold b_qnet_k12
  exact (cs_cons (c1_set C.toCf0 2 n2 s2 (ce_add ce_int (ce_x (cx_callC C.toCf0 0 c_qtake (by decide +kernel) (fun _ _ => .nil) (ca_cons (ce_var C.toCf0 0 n0 (by decide +kernel)) (ca_cons (ce_var C.toCf0 1 n1 (by decide +kernel)) ca_nil)))))) (cs_cons (c1_set C.toCf0 3 n3 s3 (ce_x (cx_callC C.toCf0 0 c_qtake (by decide +kernel) (fun _ _ => .nil) (ca_cons (ce_var C.toCf0 0 n0 (by decide +kernel)) (ca_cons ce_int ca_nil))))) (cs_cons (c1_setX C.toCf0 4 n4 s4 (cx_c (cc_l (cn_lst ca_nil)))) (cs_cons (c1_for C [5, 6, 7, 8, 9] (ci_range1 C.toCf0 (by decide +kernel) hb_range (ce_var C.toCf0 2 n2 (by decide +kernel))) (cg_name C.toCf0 5 n5 s5) (cs_cons (c1_setX C.toCf0 6 n6 s6 (cx_c (cc_l (cn_lst ca_nil)))) (cs_cons (c1_for C [7, 8, 9] (ci_range1 C.toCf0 (by decide +kernel) hb_range (ce_var C.toCf0 5 n5 (by decide +kernel))) (cg_name C.toCf0 7 n7 s7) (cs_cons (c1_set C.toCf0 8 n8 s8 (ce_sub (ce_var C.toCf0 5 n5 (by decide +kernel)) (ce_var C.toCf0 7 n7 (by decide +kernel)))) (cs_cons (c1_set C.toCf0 9 n9 s9 (ce_frz (ce_ixB C.toCf0 (ce_ofN (cn_lst (ca_cons (ce_eq C.toCf0 (ce_var C.toCf0 8 n8 (by decide +kernel)) ce_int) (ca_cons (ce_eq C.toCf0 (ce_var C.toCf0 7 n7 (by decide +kernel)) ce_int) (ca_cons (ce_eq C.toCf0 (ce_var C.toCf0 8 n8 (by decide +kernel)) ce_int) (ca_cons (ce_eq C.toCf0 (ce_var C.toCf0 8 n8 (by decide +kernel)) (ce_sub ce_int (ce_mod (ce_var C.toCf0 5 n5 (by decide +kernel)) ce_int))) (ca_cons ce_bool ca_nil))))))) (ce_min2 C (by decide +kernel) hb_min (ca_cons (ce_var C.toCf0 3 n3 (by decide +kernel)) (ca_cons ce_int ca_nil)))))) (cs_cons (c1_if (ct_cmp (ce_gt (ce_var C.toCf0 3 n3 (by decide +kernel)) ce_int)) (cs_cons (c1_set C.toCf0 9 n9 s9 (ce_eq C.toCf0 (ce_x (cx_callC C.toCf0 0 c_qtake (by decide +kernel) (fun _ _ => .nil) (ca_cons (ce_var C.toCf0 0 n0 (by decide +kernel)) (ca_cons (ce_sub (ce_var C.toCf0 3 n3 (by decide +kernel)) ce_int) ca_nil)))) ce_int)) cs_nil) cs_nil) (cs_cons (c1_if (ct_of (ce_var C.toCf0 9 n9 (by decide +kernel))) (cs_cons (c1_expr (ce_append C.toCf0 6 n6 (by decide +kernel) (ce_var C.toCf0 7 n7 (by decide +kernel)))) cs_nil) cs_nil) cs_nil))))) (cs_cons (c1_expr (ce_append C.toCf0 4 n4 (by decide +kernel) (ce_tuple C.toCf0 (by decide +kernel) hb_tuple (ca_cons (ce_var C.toCf0 6 n6 (by decide +kernel)) ca_nil)))) cs_nil)))) (cs_cons (c1_ret (ce_tuple C.toCf0 (by decide +kernel) hb_tuple (ca_cons (ce_var C.toCf0 4 n4 (by decide +kernel)) ca_nil))) cs_nil)))))
theorem ok_qnet {P : Program} {w : World} {K : PySem.W.Frag} {mg : Str → Option Value} {base : Heap} (E : Env K mg) : Gv P w K mg base (1 + 1) "_law_net" [] (spU K mg u_qnet_k12) := by
  obtain ⟨f, fd, F, hmg⟩ := E.d_qnet
  exact Gv.of F hmg (fo_qnet E F) (F.bindsN fun _ _ _ _ _ _ us hl => match us, hl with | [_, _], _ => rfl) .nil
theorem sc_qprices : FnScope ["_law_feed_here", "_law_net_here", "_law_prices_here", "_law_make", "_law_some"] ["_law_feed_here", "_law_net_here"] (defScope (top 31)) := ⟨rfl, rfl, rfl, by decide +kernel, rfl, by decide +kernel, by decide +kernel⟩
theorem fo_qprices {P : Program} {w : World} {K : PySem.W.Frag} {mg : Str → Option Value} {base : Heap} (E : Env K mg) {f : Addr} {fd : FuncData} (F : FunD K "_law_prices" "_law_prices" (defArgs (top 31)) (defBody (top 31)) (defScope (top 31)) [] [] f fd) : FnOk P w K mg base (L2.CX P w) (1 + 1) f fd ["_law_feed_here", "_law_net_here"] (spU K mg u_qprices_k53) := by
  refine fn_u (N := ["_law_feed_here", "_law_net_here", "_law_prices_here", "_law_make", "_law_some"]) (ps := ["_law_feed_here", "_law_net_here"]) (k := 1) F sc_qprices (b := b_qprices_k53) (by decide) fun X W h => ?_
  have C := h.cf
  have c_qtake := (ok_qtake (P := P) (w := w) (base := base) E).u h (by omega)
  have n0 : (["_law_feed_here", "_law_net_here", "_law_prices_here", "_law_make", "_law_some"] : List Str)[0]? = some ("_law_feed_here" : Str) := rfl
  have v0 : visB (defScope (top 31)) "_law_feed_here" = true := by decide +kernel
  have s0 : Sto X (defScope (top 31)) "_law_feed_here" := sto_c h.fn (by decide +kernel)
  have n1 : (["_law_feed_here", "_law_net_here", "_law_prices_here", "_law_make", "_law_some"] : List Str)[1]? = some ("_law_net_here" : Str) := rfl
  have v1 : visB (defScope (top 31)) "_law_net_here" = true := by decide +kernel
  have s1 : Sto X (defScope (top 31)) "_law_net_here" := sto_c h.fn (by decide +kernel)
  have n2 : (["_law_feed_here", "_law_net_here", "_law_prices_here", "_law_make", "_law_some"] : List Str)[2]? = some ("_law_prices_here" : Str) := rfl
  have v2 : visB (defScope (top 31)) "_law_prices_here" = true := by decide +kernel
  have s2 : Sto X (defScope (top 31)) "_law_prices_here" := sto_c h.fn (by decide +kernel)
  have n3 : (["_law_feed_here", "_law_net_here", "_law_prices_here", "_law_make", "_law_some"] : List Str)[3]? = some ("_law_make" : Str) := rfl
  have v3 : visB (defScope (top 31)) "_law_make" = true := by decide +kernel
  have s3 : Sto X (defScope (top 31)) "_law_make" := sto_c h.fn (by decide +kernel)
  have n4 : (["_law_feed_here", "_law_net_here", "_law_prices_here", "_law_make", "_law_some"] : List Str)[4]? = some ("_law_some" : Str) := rfl
  have v4 : visB (defScope (top 31)) "_law_some" = true := by decide +kernel
  have s4 : Sto X (defScope (top 31)) "_law_some" := sto_c h.fn (by decide +kernel)
  unfold b_qprices_k53
  exact (cs_cons (c1_if (ct_cmp (ce_eq C.toCf0 (ce_x (cx_callC C.toCf0 0 c_qtake (by decide +kernel) (fun _ _ => .nil) (ca_cons (ce_var C.toCf0 0 n0 (by decide +kernel)) (ca_cons ce_int ca_nil)))) ce_int)) (cs_cons (c1_ret ce_none) cs_nil) cs_nil) (cs_cons (c1_setX C.toCf0 2 n2 s2 (cx_c (cc_l (cn_lst ca_nil)))) (cs_cons (c1_for C [3, 4] (ci_seq (ce_var C.toCf0 1 n1 (by decide +kernel))) (cg_name C.toCf0 3 n3 s3) (cs_cons (c1_set C.toCf0 4 n4 s4 (ce_ofN (cn_lst (ca_cons ce_int (ca_cons ce_int (ca_cons ce_int (ca_cons (ce_add ce_int (ce_x (cx_callC C.toCf0 0 c_qtake (by decide +kernel) (fun _ _ => .nil) (ca_cons (ce_var C.toCf0 0 n0 (by decide +kernel)) (ca_cons ce_int ca_nil))))) (ca_cons (ce_pow ce_int ce_int) (ca_cons (ce_add ce_int (ce_pow (ce_x (cx_callC C.toCf0 0 c_qtake (by decide +kernel) (fun _ _ => .nil) (ca_cons (ce_var C.toCf0 0 n0 (by decide +kernel)) (ca_cons (ce_pow ce_int ce_int) ca_nil)))) ce_int)) ca_nil))))))))) (cs_cons (c1_expr (ce_append C.toCf0 2 n2 (by decide +kernel) (ce_ixB C.toCf0 (ce_var C.toCf0 4 n4 (by decide +kernel)) (ce_x (cx_callC C.toCf0 0 c_qtake (by decide +kernel) (fun _ _ => .nil) (ca_cons (ce_var C.toCf0 0 n0 (by decide +kernel)) (ca_cons ce_int ca_nil))))))) cs_nil))) (cs_cons (c1_retO C.toCf0 2 n2 (by decide +kernel)) cs_nil))))
theorem ok_qprices {P : Program} {w : World} {K : PySem.W.Frag} {mg : Str → Option Value} {base : Heap} (E : Env K mg) : Gv P w K mg base (1 + 1) "_law_prices" [] (spU K mg u_qprices_k53) := by
  obtain ⟨f, fd, F, hmg⟩ := E.d_qprices
  exact Gv.of F hmg (fo_qprices E F) (F.bindsN fun _ _ _ _ _ _ us hl => match us, hl with | [_, _], _ => rfl) .nil
theorem sc_qstar : FnScope ["_law_feed_here", "_law_lies", "_law_many", "_law_net_here", "_law_left", "_law_k", "_law_shut", "_law_make"] ["_law_feed_here", "_law_lies"] (defScope (top 32)) := ⟨rfl, rfl, rfl, by decide +kernel, rfl, by decide +kernel, by decide +kernel⟩
theorem fo_qstar {P : Program} {w : World} {K : PySem.W.Frag} {mg : Str → Option Value} {base : Heap} (E : Env K mg) {f : Addr} {fd : FuncData} (F : FunD K "_law_star" "_law_star" (defArgs (top 32)) (defBody (top 32)) (defScope (top 32)) [] [] f fd) : FnOk P w K mg base (L2.CX P w) (2 + 1) f fd ["_law_feed_here", "_law_lies"] (spU K mg u_qstar) := by
  refine fn_u (N := ["_law_feed_here", "_law_lies", "_law_many", "_law_net_here", "_law_left", "_law_k", "_law_shut", "_law_make"]) (ps := ["_law_feed_here", "_law_lies"]) (k := 2) F sc_qstar (b := b_qstar) (by decide) fun X W h => ?_
  have C := h.cf
  have hb_list : X.mg "list" = none := by rw [h.mg]; exact E.b_list
  have hb_range : X.mg "range" = none := by rw [h.mg]; exact E.b_range
  have hb_len : X.mg "len" = none := by rw [h.mg]; exact E.b_len
  have hb_tuple : X.mg "tuple" = none := by rw [h.mg]; exact E.b_tuple
  have c_qtake := (ok_qtake (P := P) (w := w) (base := base) E).u h (by omega)
  have c_qprices := (ok_qprices (P := P) (w := w) (base := base) E).u h (by omega)
  have n0 : (["_law_feed_here", "_law_lies", "_law_many", "_law_net_here", "_law_left", "_law_k", "_law_shut", "_law_make"] : List Str)[0]? = some ("_law_feed_here" : Str) := rfl
  have v0 : visB (defScope (top 32)) "_law_feed_here" = true := by decide +kernel
  have s0 : Sto X (defScope (top 32)) "_law_feed_here" := sto_c h.fn (by decide +kernel)
  have n1 : (["_law_feed_here", "_law_lies", "_law_many", "_law_net_here", "_law_left", "_law_k", "_law_shut", "_law_make"] : List Str)[1]? = some ("_law_lies" : Str) := rfl
  have v1 : visB (defScope (top 32)) "_law_lies" = true := by decide +kernel
  have s1 : Sto X (defScope (top 32)) "_law_lies" := sto_c h.fn (by decide +kernel)
  have n2 : (["_law_feed_here", "_law_lies", "_law_many", "_law_net_here", "_law_left", "_law_k", "_law_shut", "_law_make"] : List Str)[2]? = some ("_law_many" : Str) := rfl
  have v2 : visB (defScope (top 32)) "_law_many" = true := by decide +kernel
  have s2 : Sto X (defScope (top 32)) "_law_many" := sto_c h.fn (by decide +kernel)
  have n3 : (["_law_feed_here", "_law_lies", "_law_many", "_law_net_here", "_law_left", "_law_k", "_law_shut", "_law_make"] : List Str)[3]? = some ("_law_net_here" : Str) := rfl
  have v3 : visB (defScope (top 32)) "_law_net_here" = true := by decide +kernel
  have s3 : Sto X (defScope (top 32)) "_law_net_here" := sto_c h.fn (by decide +kernel)
  have n4 : (["_law_feed_here", "_law_lies", "_law_many", "_law_net_here", "_law_left", "_law_k", "_law_shut", "_law_make"] : List Str)[4]? = some ("_law_left" : Str) := rfl
  have v4 : visB (defScope (top 32)) "_law_left" = true := by decide +kernel
  have s4 : Sto X (defScope (top 32)) "_law_left" := sto_c h.fn (by decide +kernel)
  have n5 : (["_law_feed_here", "_law_lies", "_law_many", "_law_net_here", "_law_left", "_law_k", "_law_shut", "_law_make"] : List Str)[5]? = some ("_law_k" : Str) := rfl
  have v5 : visB (defScope (top 32)) "_law_k" = true := by decide +kernel
  have s5 : Sto X (defScope (top 32)) "_law_k" := sto_c h.fn (by decide +kernel)
  have n6 : (["_law_feed_here", "_law_lies", "_law_many", "_law_net_here", "_law_left", "_law_k", "_law_shut", "_law_make"] : List Str)[6]? = some ("_law_shut" : Str) := rfl
  have v6 : visB (defScope (top 32)) "_law_shut" = true := by decide +kernel
  have s6 : Sto X (defScope (top 32)) "_law_shut" := sto_c h.fn (by decide +kernel)
  have n7 : (["_law_feed_here", "_law_lies", "_law_many", "_law_net_here", "_law_left", "_law_k", "_law_shut", "_law_make"] : List Str)[7]? = some ("_law_make" : Str) := rfl
  unfold b_qstar
  exact (cs_cons (c1_set C.toCf0 2 n2 s2 (ce_frz (ce_ixB C.toCf0 (ce_ofN (cn_lst (ca_cons ce_int (ca_cons ce_int (ca_cons ce_int (ca_cons ce_int ca_nil)))))) (ce_var C.toCf0 1 n1 (by decide +kernel))))) (cs_cons (c1_set C.toCf0 3 n3 s3 (ce_add (ce_tup (ca_cons (ce_tup ca_nil) ca_nil)) (ce_repT (ce_tup (ca_cons (ce_tup (ca_cons ce_int ca_nil)) ca_nil)) (ce_add (ce_var C.toCf0 2 n2 (by decide +kernel)) ce_int)))) (cs_cons (c1_setX C.toCf0 4 n4 s4 (cx_c (cc_l (cn_lrng1 C (by decide +kernel) hb_list (by decide +kernel) hb_range (ce_add (ce_var C.toCf0 2 n2 (by decide +kernel)) ce_int))))) (cs_cons (c1_for C [5] (ci_range1 C.toCf0 (by decide +kernel) hb_range ce_int) (cg_name C.toCf0 5 n5 s5) (cs_cons (c1_expr (ce_popAt C.toCf0 4 n4 (by decide +kernel) (ce_x (cx_callC C.toCf0 0 c_qtake (by decide +kernel) (fun _ _ => .nil) (ca_cons (ce_var C.toCf0 0 n0 (by decide +kernel)) (ca_cons (ce_len C.toCf0 (by decide +kernel) hb_len (ca_cons (ce_var C.toCf0 4 n4 (by decide +kernel)) ca_nil)) ca_nil)))))) cs_nil)) (cs_cons (c1_setX C.toCf0 6 n6 s6 (cx_c (cc_l (cn_lrng1 C (by decide +kernel) hb_list (by decide +kernel) hb_range (ce_add (ce_var C.toCf0 2 n2 (by decide +kernel)) ce_int))))) (cs_cons (c1_for C [5] (ci_range1 C.toCf0 (by decide +kernel) hb_range ce_int) (cg_name C.toCf0 5 n5 s5) (cs_cons (c1_expr (ce_popAt C.toCf0 6 n6 (by decide +kernel) (ce_x (cx_callC C.toCf0 0 c_qtake (by decide +kernel) (fun _ _ => .nil) (ca_cons (ce_var C.toCf0 0 n0 (by decide +kernel)) (ca_cons (ce_len C.toCf0 (by decide +kernel) hb_len (ca_cons (ce_var C.toCf0 6 n6 (by decide +kernel)) ca_nil)) ca_nil)))))) cs_nil)) (cs_frz 4 (cs_cons (c1_ret (ce_tup (ca_cons (ce_frz (ce_var C.toCf0 3 n3 (by decide +kernel))) (ca_cons (ce_tuple C.toCf0 (by decide +kernel) hb_tuple (ca_cons (ce_ofN (cn_comp C (CompU.mk (own := [("_law_make", 7)]) (ci_seq (ce_var C.toCf0 4 n4 (by decide +kernel))) (by decide +kernel) (fun _ _ _ _ _ => (cg_name (Cf.blk C).toCf0 7 n7 (sto_l (by decide +kernel)))) (fun _ _ _ _ _ => cts_nil) (fun _ _ _ _ _ => (ce_frz (ce_tup (ca_cons (ce_frz (ce_var (Cf.blk C).toCf0 7 n7 (by decide +kernel))) (ca_cons (ce_x (cx_callC (Cf.blk C).toCf0 0 c_qtake.blk (by decide +kernel) (fun _ _ => .nil) (ca_cons (ce_var (Cf.blk C).toCf0 0 n0 (by decide +kernel)) (ca_cons (ce_add (ce_var (Cf.blk C).toCf0 1 n1 (by decide +kernel)) ce_int) ca_nil)))) ca_nil))))) (by decide) (fun _ => rfl)))) ca_nil)) (ca_cons (ce_frz (ce_var C.toCf0 6 n6 (by decide +kernel))) (ca_cons (ce_frz (ce_var C.toCf0 1 n1 (by decide +kernel))) (ca_cons (ce_x (cx_callC C.toCf0 0 c_qprices (by decide +kernel) (fun _ _ => .nil) (ca_cons (ce_var C.toCf0 0 n0 (by decide +kernel)) (ca_cons (ce_var C.toCf0 3 n3 (by decide +kernel)) ca_nil)))) ca_nil))))))) cs_nil))))))))
theorem ok_qstar {P : Program} {w : World} {K : PySem.W.Frag} {mg : Str → Option Value} {base : Heap} (E : Env K mg) : Gv P w K mg base (2 + 1) "_law_star" [] (spU K mg u_qstar) := by
  obtain ⟨f, fd, F, hmg⟩ := E.d_qstar
  exact Gv.of F hmg (fo_qstar E F) (F.bindsN fun _ _ _ _ _ _ us hl => match us, hl with | [_, _], _ => rfl) .nil
theorem sc_qstand : FnScope ["_law_feed_here", "_law_net_here", "_law_lies", "_law_left", "_law_makes", "_law_k", "_law_make"] ["_law_feed_here", "_law_net_here", "_law_lies"] (defScope (top 29)) := ⟨rfl, rfl, rfl, by decide +kernel, rfl, by decide +kernel, by decide +kernel⟩
theorem fo_qstand {P : Program} {w : World} {K : PySem.W.Frag} {mg : Str → Option Value} {base : Heap} (E : Env K mg) {f : Addr} {fd : FuncData} (F : FunD K "_law_stand" "_law_stand" (defArgs (top 29)) (defBody (top 29)) (defScope (top 29)) [] [] f fd) : FnOk P w K mg base (L2.CX P w) (1 + 1) f fd ["_law_feed_here", "_law_net_here", "_law_lies"] (spU K mg u_qstand_k53) := by
  refine fn_u (N := ["_law_feed_here", "_law_net_here", "_law_lies", "_law_left", "_law_makes", "_law_k", "_law_make"]) (ps := ["_law_feed_here", "_law_net_here", "_law_lies"]) (k := 1) F sc_qstand (b := b_qstand_k53) (by decide) fun X W h => ?_
  have C := h.cf
  have hb_list : X.mg "list" = none := by rw [h.mg]; exact E.b_list
  have hb_range : X.mg "range" = none := by rw [h.mg]; exact E.b_range
  have hb_len : X.mg "len" = none := by rw [h.mg]; exact E.b_len
  have hb_min : X.mg "min" = none := by rw [h.mg]; exact E.b_min
  have hb_tuple : X.mg "tuple" = none := by rw [h.mg]; exact E.b_tuple
  have hb_sorted : X.mg "sorted" = none := by rw [h.mg]; exact E.b_sorted
  have c_qtake := (ok_qtake (P := P) (w := w) (base := base) E).u h (by omega)
  have n0 : (["_law_feed_here", "_law_net_here", "_law_lies", "_law_left", "_law_makes", "_law_k", "_law_make"] : List Str)[0]? = some ("_law_feed_here" : Str) := rfl
  have v0 : visB (defScope (top 29)) "_law_feed_here" = true := by decide +kernel
  have s0 : Sto X (defScope (top 29)) "_law_feed_here" := sto_c h.fn (by decide +kernel)
  have n1 : (["_law_feed_here", "_law_net_here", "_law_lies", "_law_left", "_law_makes", "_law_k", "_law_make"] : List Str)[1]? = some ("_law_net_here" : Str) := rfl
  have v1 : visB (defScope (top 29)) "_law_net_here" = true := by decide +kernel
  have s1 : Sto X (defScope (top 29)) "_law_net_here" := sto_c h.fn (by decide +kernel)
  have n2 : (["_law_feed_here", "_law_net_here", "_law_lies", "_law_left", "_law_makes", "_law_k", "_law_make"] : List Str)[2]? = some ("_law_lies" : Str) := rfl
  have v2 : visB (defScope (top 29)) "_law_lies" = true := by decide +kernel
  have s2 : Sto X (defScope (top 29)) "_law_lies" := sto_c h.fn (by decide +kernel)
  have n3 : (["_law_feed_here", "_law_net_here", "_law_lies", "_law_left", "_law_makes", "_law_k", "_law_make"] : List Str)[3]? = some ("_law_left" : Str) := rfl
  have v3 : visB (defScope (top 29)) "_law_left" = true := by decide +kernel
  have s3 : Sto X (defScope (top 29)) "_law_left" := sto_c h.fn (by decide +kernel)
  have n4 : (["_law_feed_here", "_law_net_here", "_law_lies", "_law_left", "_law_makes", "_law_k", "_law_make"] : List Str)[4]? = some ("_law_makes" : Str) := rfl
  have v4 : visB (defScope (top 29)) "_law_makes" = true := by decide +kernel
  have s4 : Sto X (defScope (top 29)) "_law_makes" := sto_c h.fn (by decide +kernel)
  have n5 : (["_law_feed_here", "_law_net_here", "_law_lies", "_law_left", "_law_makes", "_law_k", "_law_make"] : List Str)[5]? = some ("_law_k" : Str) := rfl
  have v5 : visB (defScope (top 29)) "_law_k" = true := by decide +kernel
  have s5 : Sto X (defScope (top 29)) "_law_k" := sto_c h.fn (by decide +kernel)
  have n6 : (["_law_feed_here", "_law_net_here", "_law_lies", "_law_left", "_law_makes", "_law_k", "_law_make"] : List Str)[6]? = some ("_law_make" : Str) := rfl
  unfold b_qstand_k53
  exact (cs_cons (c1_setX C.toCf0 3 n3 s3 (cx_c (cc_l (cn_lrng1 C (by decide +kernel) hb_list (by decide +kernel) hb_range (ce_len C.toCf0 (by decide +kernel) hb_len (ca_cons (ce_var C.toCf0 1 n1 (by decide +kernel)) ca_nil)))))) (cs_cons (c1_setX C.toCf0 4 n4 s4 (cx_c (cc_l (cn_lst ca_nil)))) (cs_cons (c1_for C [5] (ci_range1 C.toCf0 (by decide +kernel) hb_range (ce_add ce_int (ce_x (cx_callC C.toCf0 0 c_qtake (by decide +kernel) (fun _ _ => .nil) (ca_cons (ce_var C.toCf0 0 n0 (by decide +kernel)) (ca_cons (ce_min2 C (by decide +kernel) hb_min (ca_cons (ce_ixB C.toCf0 (ce_ofN (cn_lst (ca_cons ce_int (ca_cons ce_int (ca_cons ce_int (ca_cons ce_int ca_nil)))))) (ce_var C.toCf0 2 n2 (by decide +kernel))) (ca_cons (ce_len C.toCf0 (by decide +kernel) hb_len (ca_cons (ce_var C.toCf0 1 n1 (by decide +kernel)) ca_nil)) ca_nil))) ca_nil)))))) (cg_name C.toCf0 5 n5 s5) (cs_cons (c1_expr (ce_append C.toCf0 4 n4 (by decide +kernel) (ce_popAt C.toCf0 3 n3 (by decide +kernel) (ce_x (cx_callC C.toCf0 0 c_qtake (by decide +kernel) (fun _ _ => .nil) (ca_cons (ce_var C.toCf0 0 n0 (by decide +kernel)) (ca_cons (ce_len C.toCf0 (by decide +kernel) hb_len (ca_cons (ce_var C.toCf0 3 n3 (by decide +kernel)) ca_nil)) ca_nil))))))) cs_nil)) (cs_cons (c1_ret (ce_tuple C.toCf0 (by decide +kernel) hb_tuple (ca_cons (ce_ofN (cn_comp C (CompU.mk (own := [("_law_make", 6)]) (ci_seq (ce_ofN (cn_sorted C.toCf0 (by decide +kernel) hb_sorted (ca_cons (ce_var C.toCf0 4 n4 (by decide +kernel)) ca_nil)))) (by decide +kernel) (fun _ _ _ _ _ => (cg_name (Cf.blk C).toCf0 6 n6 (sto_l (by decide +kernel)))) (fun _ _ _ _ _ => cts_nil) (fun _ _ _ _ _ => (ce_frz (ce_tup (ca_cons (ce_frz (ce_var (Cf.blk C).toCf0 6 n6 (by decide +kernel))) (ca_cons (ce_x (cx_callC (Cf.blk C).toCf0 0 c_qtake.blk (by decide +kernel) (fun _ _ => .nil) (ca_cons (ce_var (Cf.blk C).toCf0 0 n0 (by decide +kernel)) (ca_cons (ce_add (ce_var (Cf.blk C).toCf0 2 n2 (by decide +kernel)) ce_int) ca_nil)))) ca_nil))))) (by decide) (fun _ => rfl)))) ca_nil))) cs_nil))))
theorem ok_qstand {P : Program} {w : World} {K : PySem.W.Frag} {mg : Str → Option Value} {base : Heap} (E : Env K mg) : Gv P w K mg base (1 + 1) "_law_stand" [] (spU K mg u_qstand_k53) := by
  obtain ⟨f, fd, F, hmg⟩ := E.d_qstand
  exact Gv.of F hmg (fo_qstand E F) (F.bindsN fun _ _ _ _ _ _ us hl => match us, hl with | [_, _, _], _ => rfl) .nil
theorem sc_qbarred : FnScope ["_law_feed_here", "_law_net_here", "_law_share", "_law_barred_here", "_law_make", "_law_turn"] ["_law_feed_here", "_law_net_here"] (defScope (top 30)) := ⟨rfl, rfl, rfl, by decide +kernel, rfl, by decide +kernel, by decide +kernel⟩
theorem fo_qbarred {P : Program} {w : World} {K : PySem.W.Frag} {mg : Str → Option Value} {base : Heap} (E : Env K mg) {f : Addr} {fd : FuncData} (F : FunD K "_law_barred" "_law_barred" (defArgs (top 30)) (defBody (top 30)) (defScope (top 30)) [] [] f fd) : FnOk P w K mg base (L2.CX P w) (1 + 1) f fd ["_law_feed_here", "_law_net_here"] (spU K mg u_qbarred_k53) := by
  refine fn_u (N := ["_law_feed_here", "_law_net_here", "_law_share", "_law_barred_here", "_law_make", "_law_turn"]) (ps := ["_law_feed_here", "_law_net_here"]) (k := 1) F sc_qbarred (b := b_qbarred_k53) (by decide) fun X W h => ?_
  have C := h.cf
  have hb_range : X.mg "range" = none := by rw [h.mg]; exact E.b_range
  have hb_len : X.mg "len" = none := by rw [h.mg]; exact E.b_len
  have c_qtake := (ok_qtake (P := P) (w := w) (base := base) E).u h (by omega)
  have n0 : (["_law_feed_here", "_law_net_here", "_law_share", "_law_barred_here", "_law_make", "_law_turn"] : List Str)[0]? = some ("_law_feed_here" : Str) := rfl
  have v0 : visB (defScope (top 30)) "_law_feed_here" = true := by decide +kernel
  have s0 : Sto X (defScope (top 30)) "_law_feed_here" := sto_c h.fn (by decide +kernel)
  have n1 : (["_law_feed_here", "_law_net_here", "_law_share", "_law_barred_here", "_law_make", "_law_turn"] : List Str)[1]? = some ("_law_net_here" : Str) := rfl
  have v1 : visB (defScope (top 30)) "_law_net_here" = true := by decide +kernel
  have s1 : Sto X (defScope (top 30)) "_law_net_here" := sto_c h.fn (by decide +kernel)
  have n2 : (["_law_feed_here", "_law_net_here", "_law_share", "_law_barred_here", "_law_make", "_law_turn"] : List Str)[2]? = some ("_law_share" : Str) := rfl
  have v2 : visB (defScope (top 30)) "_law_share" = true := by decide +kernel
  have s2 : Sto X (defScope (top 30)) "_law_share" := sto_c h.fn (by decide +kernel)
  have n3 : (["_law_feed_here", "_law_net_here", "_law_share", "_law_barred_here", "_law_make", "_law_turn"] : List Str)[3]? = some ("_law_barred_here" : Str) := rfl
  have v3 : visB (defScope (top 30)) "_law_barred_here" = true := by decide +kernel
  have s3 : Sto X (defScope (top 30)) "_law_barred_here" := sto_c h.fn (by decide +kernel)
  have n4 : (["_law_feed_here", "_law_net_here", "_law_share", "_law_barred_here", "_law_make", "_law_turn"] : List Str)[4]? = some ("_law_make" : Str) := rfl
  have v4 : visB (defScope (top 30)) "_law_make" = true := by decide +kernel
  have s4 : Sto X (defScope (top 30)) "_law_make" := sto_c h.fn (by decide +kernel)
  have n5 : (["_law_feed_here", "_law_net_here", "_law_share", "_law_barred_here", "_law_make", "_law_turn"] : List Str)[5]? = some ("_law_turn" : Str) := rfl
  have v5 : visB (defScope (top 30)) "_law_turn" = true := by decide +kernel
  have s5 : Sto X (defScope (top 30)) "_law_turn" := sto_c h.fn (by decide +kernel)
  unfold b_qbarred_k53
  exact (cs_cons (c1_set C.toCf0 2 n2 s2 (ce_frz (ce_ixB C.toCf0 (ce_ofN (cn_lst (ca_cons ce_int (ca_cons ce_int (ca_cons ce_int (ca_cons ce_int ca_nil)))))) (ce_x (cx_callC C.toCf0 0 c_qtake (by decide +kernel) (fun _ _ => .nil) (ca_cons (ce_var C.toCf0 0 n0 (by decide +kernel)) (ca_cons ce_int ca_nil))))))) (cs_cons (c1_setX C.toCf0 3 n3 s3 (cx_c (cc_l (cn_lst ca_nil)))) (cs_cons (c1_for C [4, 5] (ci_range1 C.toCf0 (by decide +kernel) hb_range (ce_len C.toCf0 (by decide +kernel) hb_len (ca_cons (ce_var C.toCf0 1 n1 (by decide +kernel)) ca_nil))) (cg_name C.toCf0 4 n4 s4) (cs_cons (c1_if (ct_cmp (ce_lt (ce_x (cx_callC C.toCf0 0 c_qtake (by decide +kernel) (fun _ _ => .nil) (ca_cons (ce_var C.toCf0 0 n0 (by decide +kernel)) (ca_cons ce_int ca_nil)))) (ce_var C.toCf0 2 n2 (by decide +kernel)))) (cs_cons (c1_for C [5] (ci_range1 C.toCf0 (by decide +kernel) hb_range (ce_add ce_int (ce_x (cx_callC C.toCf0 0 c_qtake (by decide +kernel) (fun _ _ => .nil) (ca_cons (ce_var C.toCf0 0 n0 (by decide +kernel)) (ca_cons ce_int ca_nil)))))) (cg_name C.toCf0 5 n5 s5) (cs_cons (c1_expr (ce_insert C.toCf0 3 n3 (by decide +kernel) (ce_x (cx_callC C.toCf0 0 c_qtake (by decide +kernel) (fun _ _ => .nil) (ca_cons (ce_var C.toCf0 0 n0 (by decide +kernel)) (ca_cons (ce_add (ce_len C.toCf0 (by decide +kernel) hb_len (ca_cons (ce_var C.toCf0 3 n3 (by decide +kernel)) ca_nil)) ce_int) ca_nil)))) (ce_var C.toCf0 4 n4 (by decide +kernel)))) cs_nil)) cs_nil) cs_nil) cs_nil)) (cs_cons (c1_retO C.toCf0 3 n3 (by decide +kernel)) cs_nil))))
theorem ok_qbarred {P : Program} {w : World} {K : PySem.W.Frag} {mg : Str → Option Value} {base : Heap} (E : Env K mg) : Gv P w K mg base (1 + 1) "_law_barred" [] (spU K mg u_qbarred_k53) := by
  obtain ⟨f, fd, F, hmg⟩ := E.d_qbarred
  exact Gv.of F hmg (fo_qbarred E F) (F.bindsN fun _ _ _ _ _ _ us hl => match us, hl with | [_, _], _ => rfl) .nil
theorem sc_qdrawn : FnScope ["_law_feed_here", "_law_net_here", "_law_lies", "_law_way", "_law_stand_here", "_law_barred_here", "_law_make"] ["_law_feed_here"] (defScope (top 33)) := ⟨rfl, rfl, rfl, by decide +kernel, rfl, by decide +kernel, by decide +kernel⟩
theorem fo_qdrawn {P : Program} {w : World} {K : PySem.W.Frag} {mg : Str → Option Value} {base : Heap} (E : Env K mg) {f : Addr} {fd : FuncData} (F : FunD K "_law_drawn" "_law_drawn" (defArgs (top 33)) (defBody (top 33)) (defScope (top 33)) [] [] f fd) : FnOk P w K mg base (L2.CX P w) (3 + 1) f fd ["_law_feed_here"] (spU K mg u_qdrawn) := by
  refine fn_u (N := ["_law_feed_here", "_law_net_here", "_law_lies", "_law_way", "_law_stand_here", "_law_barred_here", "_law_make"]) (ps := ["_law_feed_here"]) (k := 3) F sc_qdrawn (b := b_qdrawn) (by decide) fun X W h => ?_
  have C := h.cf
  have hb_tuple : X.mg "tuple" = none := by rw [h.mg]; exact E.b_tuple
  have hb_range : X.mg "range" = none := by rw [h.mg]; exact E.b_range
  have hb_len : X.mg "len" = none := by rw [h.mg]; exact E.b_len
  have c_qnet := (ok_qnet (P := P) (w := w) (base := base) E).u h (by omega)
  have c_qtake := (ok_qtake (P := P) (w := w) (base := base) E).u h (by omega)
  have c_qstar := (ok_qstar (P := P) (w := w) (base := base) E).u h (by omega)
  have c_qstand := (ok_qstand (P := P) (w := w) (base := base) E).u h (by omega)
  have c_qbarred := (ok_qbarred (P := P) (w := w) (base := base) E).u h (by omega)
  have c_qprices := (ok_qprices (P := P) (w := w) (base := base) E).u h (by omega)
  have n0 : (["_law_feed_here", "_law_net_here", "_law_lies", "_law_way", "_law_stand_here", "_law_barred_here", "_law_make"] : List Str)[0]? = some ("_law_feed_here" : Str) := rfl
  have v0 : visB (defScope (top 33)) "_law_feed_here" = true := by decide +kernel
  have s0 : Sto X (defScope (top 33)) "_law_feed_here" := sto_c h.fn (by decide +kernel)
  have n1 : (["_law_feed_here", "_law_net_here", "_law_lies", "_law_way", "_law_stand_here", "_law_barred_here", "_law_make"] : List Str)[1]? = some ("_law_net_here" : Str) := rfl
  have v1 : visB (defScope (top 33)) "_law_net_here" = true := by decide +kernel
  have s1 : Sto X (defScope (top 33)) "_law_net_here" := sto_c h.fn (by decide +kernel)
  have n2 : (["_law_feed_here", "_law_net_here", "_law_lies", "_law_way", "_law_stand_here", "_law_barred_here", "_law_make"] : List Str)[2]? = some ("_law_lies" : Str) := rfl
  have v2 : visB (defScope (top 33)) "_law_lies" = true := by decide +kernel
  have s2 : Sto X (defScope (top 33)) "_law_lies" := sto_c h.fn (by decide +kernel)
  have n3 : (["_law_feed_here", "_law_net_here", "_law_lies", "_law_way", "_law_stand_here", "_law_barred_here", "_law_make"] : List Str)[3]? = some ("_law_way" : Str) := rfl
  have v3 : visB (defScope (top 33)) "_law_way" = true := by decide +kernel
  have s3 : Sto X (defScope (top 33)) "_law_way" := sto_c h.fn (by decide +kernel)
  have n4 : (["_law_feed_here", "_law_net_here", "_law_lies", "_law_way", "_law_stand_here", "_law_barred_here", "_law_make"] : List Str)[4]? = some ("_law_stand_here" : Str) := rfl
  have v4 : visB (defScope (top 33)) "_law_stand_here" = true := by decide +kernel
  have s4 : Sto X (defScope (top 33)) "_law_stand_here" := sto_c h.fn (by decide +kernel)
  have n5 : (["_law_feed_here", "_law_net_here", "_law_lies", "_law_way", "_law_stand_here", "_law_barred_here", "_law_make"] : List Str)[5]? = some ("_law_barred_here" : Str) := rfl
  have v5 : visB (defScope (top 33)) "_law_barred_here" = true := by decide +kernel
  have s5 : Sto X (defScope (top 33)) "_law_barred_here" := sto_c h.fn (by decide +kernel)
  have n6 : (["_law_feed_here", "_law_net_here", "_law_lies", "_law_way", "_law_stand_here", "_law_barred_here", "_law_make"] : List Str)[6]? = some ("_law_make" : Str) := rfl
  unfold b_qdrawn
  exact (cs_cons (c1_set C.toCf0 1 n1 s1 (ce_x (cx_callC C.toCf0 0 c_qnet (by decide +kernel) (fun _ _ => .nil) (ca_cons (ce_var C.toCf0 0 n0 (by decide +kernel)) (ca_cons ce_int ca_nil))))) (cs_cons (c1_set C.toCf0 2 n2 s2 (ce_frz (ce_ixB C.toCf0 (ce_ofN (cn_lst (ca_cons ce_int (ca_cons ce_int (ca_cons ce_int (ca_cons ce_int (ca_cons ce_int (ca_cons ce_int ca_nil)))))))) (ce_x (cx_callC C.toCf0 0 c_qtake (by decide +kernel) (fun _ _ => .nil) (ca_cons (ce_var C.toCf0 0 n0 (by decide +kernel)) (ca_cons ce_int ca_nil))))))) (cs_cons (c1_set C.toCf0 3 n3 s3 (ce_x (cx_callC C.toCf0 0 c_qtake (by decide +kernel) (fun _ _ => .nil) (ca_cons (ce_var C.toCf0 0 n0 (by decide +kernel)) (ca_cons ce_int ca_nil))))) (cs_cons (c1_if (ct_cmp (ce_eq C.toCf0 (ce_var C.toCf0 3 n3 (by decide +kernel)) ce_int)) (cs_cons (c1_retX (cx_callC C.toCf0 0 c_qstar (by decide +kernel) (fun _ _ => .nil) (ca_cons (ce_var C.toCf0 0 n0 (by decide +kernel)) (ca_cons (ce_var C.toCf0 2 n2 (by decide +kernel)) ca_nil)))) cs_nil) cs_nil) (cs_cons (c1_set C.toCf0 4 n4 s4 (ce_x (cx_callC C.toCf0 0 c_qstand (by decide +kernel) (fun _ _ => .nil) (ca_cons (ce_var C.toCf0 0 n0 (by decide +kernel)) (ca_cons (ce_var C.toCf0 1 n1 (by decide +kernel)) (ca_cons (ce_var C.toCf0 2 n2 (by decide +kernel)) ca_nil)))))) (cs_cons (c1_if (ct_cmp (ce_gt (ce_var C.toCf0 3 n3 (by decide +kernel)) ce_int)) (cs_cons (c1_set C.toCf0 1 n1 s1 (ce_add (ce_tup (ca_cons (ce_tup ca_nil) ca_nil)) (ce_tuple C.toCf0 (by decide +kernel) hb_tuple (ca_cons (ce_ofN (cn_comp C (CompU.mk (own := [("_law_make", 6)]) (ci_range1 C.toCf0 (by decide +kernel) hb_range (ce_x (cx_callC C.toCf0 0 c_qtake (by decide +kernel) (fun _ _ => .nil) (ca_cons (ce_var C.toCf0 0 n0 (by decide +kernel)) (ca_cons ce_int ca_nil))))) (by decide +kernel) (fun _ _ _ _ _ => (cg_name (Cf.blk C).toCf0 6 n6 (sto_l (by decide +kernel)))) (fun _ _ _ _ _ => cts_nil) (fun _ _ _ _ _ => (ce_frz (ce_tup (ca_cons (ce_frz (ce_var (Cf.blk C).toCf0 6 n6 (by decide +kernel))) ca_nil)))) (by decide) (fun _ => rfl)))) ca_nil)))) (cs_cons (c1_set C.toCf0 2 n2 s2 ce_int) (cs_cons (c1_set C.toCf0 4 n4 s4 (ce_tuple C.toCf0 (by decide +kernel) hb_tuple (ca_cons (ce_ofN (cn_comp C (CompU.mk (own := [("_law_make", 6)]) (ci_range1 C.toCf0 (by decide +kernel) hb_range (ce_len C.toCf0 (by decide +kernel) hb_len (ca_cons (ce_var C.toCf0 1 n1 (by decide +kernel)) ca_nil))) (by decide +kernel) (fun _ _ _ _ _ => (cg_name (Cf.blk C).toCf0 6 n6 (sto_l (by decide +kernel)))) (fun _ _ _ _ _ => cts_nil) (fun _ _ _ _ _ => (ce_frz (ce_tup (ca_cons (ce_frz (ce_var (Cf.blk C).toCf0 6 n6 (by decide +kernel))) (ca_cons ce_int ca_nil))))) (by decide) (fun _ => rfl)))) ca_nil))) cs_nil))) cs_nil) (cs_cons (c1_set C.toCf0 5 n5 s5 (ce_x (cx_callC C.toCf0 0 c_qbarred (by decide +kernel) (fun _ _ => .nil) (ca_cons (ce_var C.toCf0 0 n0 (by decide +kernel)) (ca_cons (ce_var C.toCf0 1 n1 (by decide +kernel)) ca_nil))))) (cs_cons (c1_ret (ce_tup (ca_cons (ce_frz (ce_var C.toCf0 1 n1 (by decide +kernel))) (ca_cons (ce_frz (ce_var C.toCf0 4 n4 (by decide +kernel))) (ca_cons (ce_frz (ce_var C.toCf0 5 n5 (by decide +kernel))) (ca_cons (ce_frz (ce_var C.toCf0 2 n2 (by decide +kernel))) (ca_cons (ce_x (cx_callC C.toCf0 0 c_qprices (by decide +kernel) (fun _ _ => .nil) (ca_cons (ce_var C.toCf0 0 n0 (by decide +kernel)) (ca_cons (ce_var C.toCf0 1 n1 (by decide +kernel)) ca_nil)))) ca_nil))))))) cs_nil))))))))
theorem ok_qdrawn {P : Program} {w : World} {K : PySem.W.Frag} {mg : Str → Option Value} {base : Heap} (E : Env K mg) : Gv P w K mg base (3 + 1) "_law_drawn" [] (spU K mg u_qdrawn) := by
  obtain ⟨f, fd, F, hmg⟩ := E.d_qdrawn
  exact Gv.of F hmg (fo_qdrawn E F) (F.bindsN fun _ _ _ _ _ _ us hl => match us, hl with | [_], _ => rfl) .nil
theorem sc_p_bits_of : FnScope ["net", "found", "make", "elders", "bits", "elder"] ["net"] (defScope (top 4)) := ⟨rfl, rfl, rfl, by decide +kernel, rfl, by decide +kernel, by decide +kernel⟩
theorem fo_p_bits_of {P : Program} {w : World} {K : PySem.W.Frag} {mg : Str → Option Value} {base : Heap} (E : Env K mg) {f : Addr} {fd : FuncData} (F : FunD K "bits_of" "bits_of" (defArgs (top 4)) (defBody (top 4)) (defScope (top 4)) [] [] f fd) : FnOk P w K mg base (L2.CX P w) (0 + 1) f fd ["net"] (spU K mg uBitsOf) := by
  refine fn_u (N := ["net", "found", "make", "elders", "bits", "elder"]) (ps := ["net"]) (k := 0) F sc_p_bits_of (b := bBitsOf) (by decide) fun X W h => ?_
  have C := h.cf
  have hb_enumerate : X.mg "enumerate" = none := by rw [h.mg]; exact E.b_enumerate
  have n0 : (["net", "found", "make", "elders", "bits", "elder"] : List Str)[0]? = some ("net" : Str) := rfl
  have v0 : visB (defScope (top 4)) "net" = true := by decide +kernel
  have s0 : Sto X (defScope (top 4)) "net" := sto_c h.fn (by decide +kernel)
  have n1 : (["net", "found", "make", "elders", "bits", "elder"] : List Str)[1]? = some ("found" : Str) := rfl
  have v1 : visB (defScope (top 4)) "found" = true := by decide +kernel
  have s1 : Sto X (defScope (top 4)) "found" := sto_c h.fn (by decide +kernel)
  have n2 : (["net", "found", "make", "elders", "bits", "elder"] : List Str)[2]? = some ("make" : Str) := rfl
  have v2 : visB (defScope (top 4)) "make" = true := by decide +kernel
  have s2 : Sto X (defScope (top 4)) "make" := sto_c h.fn (by decide +kernel)
  have n3 : (["net", "found", "make", "elders", "bits", "elder"] : List Str)[3]? = some ("elders" : Str) := rfl
  have v3 : visB (defScope (top 4)) "elders" = true := by decide +kernel
  have s3 : Sto X (defScope (top 4)) "elders" := sto_c h.fn (by decide +kernel)
  have n4 : (["net", "found", "make", "elders", "bits", "elder"] : List Str)[4]? = some ("bits" : Str) := rfl
  have v4 : visB (defScope (top 4)) "bits" = true := by decide +kernel
  have s4 : Sto X (defScope (top 4)) "bits" := sto_c h.fn (by decide +kernel)
  have n5 : (["net", "found", "make", "elders", "bits", "elder"] : List Str)[5]? = some ("elder" : Str) := rfl
  have v5 : visB (defScope (top 4)) "elder" = true := by decide +kernel
  have s5 : Sto X (defScope (top 4)) "elder" := sto_c h.fn (by decide +kernel)
  unfold bBitsOf
  exact (cs_cons (c1_setX C.toCf0 1 n1 s1 (cx_c (cc_l (cn_lst ca_nil)))) (cs_cons (c1_for C [2, 3, 4, 5] (ci_enum C.toCf0 (by decide +kernel) hb_enumerate (ce_var C.toCf0 0 n0 (by decide +kernel))) (cg_tup2 C (cg_name C.toCf0 2 n2 s2) (cg_name C.toCf0 3 n3 s3)) (cs_cons (c1_set C.toCf0 4 n4 s4 (ce_shl ce_int (ce_var C.toCf0 2 n2 (by decide +kernel)))) (cs_cons (c1_for C [5] (ci_seq (ce_var C.toCf0 3 n3 (by decide +kernel))) (cg_name C.toCf0 5 n5 s5) (cs_cons (c1_set C.toCf0 4 n4 s4 (ce_bor (ce_var C.toCf0 4 n4 (by decide +kernel)) (ce_ixB C.toCf0 (ce_var C.toCf0 1 n1 (by decide +kernel)) (ce_var C.toCf0 5 n5 (by decide +kernel))))) cs_nil)) (cs_cons (c1_expr (ce_append C.toCf0 1 n1 (by decide +kernel) (ce_var C.toCf0 4 n4 (by decide +kernel)))) cs_nil)))) (cs_cons (c1_retO C.toCf0 1 n1 (by decide +kernel)) cs_nil)))
theorem ok_p_bits_of {P : Program} {w : World} {K : PySem.W.Frag} {mg : Str → Option Value} {base : Heap} (E : Env K mg) : Gv P w K mg base (0 + 1) "bits_of" [] (spU K mg uBitsOf) := by
  obtain ⟨f, fd, F, hmg⟩ := E.d_p_bits_of
  exact Gv.of F hmg (fo_p_bits_of E F) (F.bindsN fun _ _ _ _ _ _ us hl => match us, hl with | [_], _ => rfl) .nil
theorem sc_p_some_of : FnScope ["makes"] ["makes"] (defScope (top 6)) := ⟨rfl, rfl, rfl, by decide +kernel, rfl, by decide +kernel, by decide +kernel⟩
theorem fo_p_some_of {P : Program} {w : World} {K : PySem.W.Frag} {mg : Str → Option Value} {base : Heap} (E : Env K mg) {f : Addr} {fd : FuncData} (F : FunD K "some_of" "some_of" (defArgs (top 6)) (defBody (top 6)) (defScope (top 6)) [] [] f fd) : FnOk P w K mg base (L2.CX P w) (0 + 1) f fd ["makes"] (spU K mg u_p_some_of) := by
  refine fn_u (N := ["makes"]) (ps := ["makes"]) (k := 0) F sc_p_some_of (b := b_p_some_of) (by decide) fun X W h => ?_
  have C := h.cf
  have hb_list : X.mg "list" = none := by rw [h.mg]; exact E.b_list
  have n0 : (["makes"] : List Str)[0]? = some ("makes" : Str) := rfl
  have v0 : visB (defScope (top 6)) "makes" = true := by decide +kernel
  have s0 : Sto X (defScope (top 6)) "makes" := sto_c h.fn (by decide +kernel)
  unfold b_p_some_of
  exact (cs_cons (c1_if (ct_cmp (ce_is (ce_var C.toCf0 0 n0 (by decide +kernel)) ce_none)) (cs_cons (c1_retC (cc_l (cn_lst ca_nil))) cs_nil) cs_nil) (cs_cons (c1_retC (cc_l (cn_list C.toCf0 (by decide +kernel) hb_list (ca_cons (ce_var C.toCf0 0 n0 (by decide +kernel)) ca_nil)))) cs_nil))
theorem ok_p_some_of {P : Program} {w : World} {K : PySem.W.Frag} {mg : Str → Option Value} {base : Heap} (E : Env K mg) : Gv P w K mg base (0 + 1) "some_of" [] (spU K mg u_p_some_of) := by
  obtain ⟨f, fd, F, hmg⟩ := E.d_p_some_of
  exact Gv.of F hmg (fo_p_some_of E F) (F.bindsN fun _ _ _ _ _ _ us hl => match us, hl with | [_], _ => rfl) .nil
theorem sc_p_mask_of : FnScope ["makes", "mask", "make"] ["makes"] (defScope (top 5)) := ⟨rfl, rfl, rfl, by decide +kernel, rfl, by decide +kernel, by decide +kernel⟩
theorem fo_p_mask_of {P : Program} {w : World} {K : PySem.W.Frag} {mg : Str → Option Value} {base : Heap} (E : Env K mg) {f : Addr} {fd : FuncData} (F : FunD K "mask_of" "mask_of" (defArgs (top 5)) (defBody (top 5)) (defScope (top 5)) [] [] f fd) : FnOk P w K mg base (L2.CX P w) (0 + 1) f fd ["makes"] (spU K mg u_p_mask_of) := by
  refine fn_u (N := ["makes", "mask", "make"]) (ps := ["makes"]) (k := 0) F sc_p_mask_of (b := b_p_mask_of) (by decide) fun X W h => ?_
  have C := h.cf
  have n0 : (["makes", "mask", "make"] : List Str)[0]? = some ("makes" : Str) := rfl
  have v0 : visB (defScope (top 5)) "makes" = true := by decide +kernel
  have s0 : Sto X (defScope (top 5)) "makes" := sto_c h.fn (by decide +kernel)
  have n1 : (["makes", "mask", "make"] : List Str)[1]? = some ("mask" : Str) := rfl
  have v1 : visB (defScope (top 5)) "mask" = true := by decide +kernel
  have s1 : Sto X (defScope (top 5)) "mask" := sto_c h.fn (by decide +kernel)
  have n2 : (["makes", "mask", "make"] : List Str)[2]? = some ("make" : Str) := rfl
  have v2 : visB (defScope (top 5)) "make" = true := by decide +kernel
  have s2 : Sto X (defScope (top 5)) "make" := sto_c h.fn (by decide +kernel)
  unfold b_p_mask_of
  exact (cs_cons (c1_set C.toCf0 1 n1 s1 ce_int) (cs_cons (c1_for C [2] (ci_seq (ce_var C.toCf0 0 n0 (by decide +kernel))) (cg_name C.toCf0 2 n2 s2) (cs_cons (c1_set C.toCf0 1 n1 s1 (ce_bor (ce_var C.toCf0 1 n1 (by decide +kernel)) (ce_shl ce_int (ce_var C.toCf0 2 n2 (by decide +kernel))))) cs_nil)) (cs_cons (c1_ret (ce_var C.toCf0 1 n1 (by decide +kernel))) cs_nil)))
theorem ok_p_mask_of {P : Program} {w : World} {K : PySem.W.Frag} {mg : Str → Option Value} {base : Heap} (E : Env K mg) : Gv P w K mg base (0 + 1) "mask_of" [] (spU K mg u_p_mask_of) := by
  obtain ⟨f, fd, F, hmg⟩ := E.d_p_mask_of
  exact Gv.of F hmg (fo_p_mask_of E F) (F.bindsN fun _ _ _ _ _ _ us hl => match us, hl with | [_], _ => rfl) .nil
theorem sc_p_useful_bits : FnScope ["bits", "makes", "barred", "mask", "make"] ["bits", "makes", "barred"] (defScope (top 16)) := ⟨rfl, rfl, rfl, by decide +kernel, rfl, by decide +kernel, by decide +kernel⟩
theorem fo_p_useful_bits {P : Program} {w : World} {K : PySem.W.Frag} {mg : Str → Option Value} {base : Heap} (E : Env K mg) {f : Addr} {fd : FuncData} (F : FunD K "useful_bits" "useful_bits" (defArgs (top 16)) (defBody (top 16)) (defScope (top 16)) [] [] f fd) : FnOk P w K mg base (L2.CX P w) (1 + 1) f fd ["bits", "makes", "barred"] (spU K mg u_p_useful_bits) := by
  refine fn_u (N := ["bits", "makes", "barred", "mask", "make"]) (ps := ["bits", "makes", "barred"]) (k := 1) F sc_p_useful_bits (b := b_p_useful_bits) (by decide) fun X W h => ?_
  have C := h.cf
  have hb_range : X.mg "range" = none := by rw [h.mg]; exact E.b_range
  have hb_len : X.mg "len" = none := by rw [h.mg]; exact E.b_len
  have c_p_mask_of := (ok_p_mask_of (P := P) (w := w) (base := base) E).u h (by omega)
  have n0 : (["bits", "makes", "barred", "mask", "make"] : List Str)[0]? = some ("bits" : Str) := rfl
  have v0 : visB (defScope (top 16)) "bits" = true := by decide +kernel
  have s0 : Sto X (defScope (top 16)) "bits" := sto_c h.fn (by decide +kernel)
  have n1 : (["bits", "makes", "barred", "mask", "make"] : List Str)[1]? = some ("makes" : Str) := rfl
  have v1 : visB (defScope (top 16)) "makes" = true := by decide +kernel
  have s1 : Sto X (defScope (top 16)) "makes" := sto_c h.fn (by decide +kernel)
  have n2 : (["bits", "makes", "barred", "mask", "make"] : List Str)[2]? = some ("barred" : Str) := rfl
  have v2 : visB (defScope (top 16)) "barred" = true := by decide +kernel
  have s2 : Sto X (defScope (top 16)) "barred" := sto_c h.fn (by decide +kernel)
  have n3 : (["bits", "makes", "barred", "mask", "make"] : List Str)[3]? = some ("mask" : Str) := rfl
  have v3 : visB (defScope (top 16)) "mask" = true := by decide +kernel
  have s3 : Sto X (defScope (top 16)) "mask" := sto_c h.fn (by decide +kernel)
  have n4 : (["bits", "makes", "barred", "mask", "make"] : List Str)[4]? = some ("make" : Str) := rfl
  unfold b_p_useful_bits
  exact (cs_cons (c1_set C.toCf0 3 n3 s3 (ce_x (cx_call C.toCf0 c_p_mask_of (by decide +kernel) (fun _ _ => .nil) (ca_cons (ce_var C.toCf0 1 n1 (by decide +kernel)) ca_nil)))) (cs_cons (c1_retC (cc_l (cn_comp C (CompU.mk (own := [("make", 4)]) (ci_range1 C.toCf0 (by decide +kernel) hb_range (ce_len C.toCf0 (by decide +kernel) hb_len (ca_cons (ce_var C.toCf0 0 n0 (by decide +kernel)) ca_nil))) (by decide +kernel) (fun _ _ _ _ _ => (cg_name (Cf.blk C).toCf0 4 n4 (sto_l (by decide +kernel)))) (fun _ _ _ _ _ => (cts_one (ct_w (cw_and (ct_cmp (ce_notinB (Cf.blk C).toCf0 (ce_var (Cf.blk C).toCf0 4 n4 (by decide +kernel)) (ce_var (Cf.blk C).toCf0 2 n2 (by decide +kernel)))) (cw_and1 (ct_chain op_lt op_lt ce_int (ce_band (ce_ixB (Cf.blk C).toCf0 (ce_var (Cf.blk C).toCf0 0 n0 (by decide +kernel)) (ce_var (Cf.blk C).toCf0 4 n4 (by decide +kernel))) (ce_var (Cf.blk C).toCf0 3 n3 (by decide +kernel))) (ce_var (Cf.blk C).toCf0 3 n3 (by decide +kernel)))))))) (fun _ _ _ _ _ => (ce_frz (ce_var (Cf.blk C).toCf0 4 n4 (by decide +kernel)))) (by decide) (fun _ => rfl))))) cs_nil))
theorem ok_p_useful_bits {P : Program} {w : World} {K : PySem.W.Frag} {mg : Str → Option Value} {base : Heap} (E : Env K mg) : Gv P w K mg base (1 + 1) "useful_bits" [] (spU K mg u_p_useful_bits) := by
  obtain ⟨f, fd, F, hmg⟩ := E.d_p_useful_bits
  exact Gv.of F hmg (fo_p_useful_bits E F) (F.bindsN fun _ _ _ _ _ _ us hl => match us, hl with | [_, _, _], _ => rfl) .nil
theorem sc_p_makes_of : FnScope ["stand", "make", "many"] ["stand"] (defScope (top 12)) := ⟨rfl, rfl, rfl, by decide +kernel, rfl, by decide +kernel, by decide +kernel⟩
theorem fo_p_makes_of {P : Program} {w : World} {K : PySem.W.Frag} {mg : Str → Option Value} {base : Heap} (E : Env K mg) {f : Addr} {fd : FuncData} (F : FunD K "makes_of" "makes_of" (defArgs (top 12)) (defBody (top 12)) (defScope (top 12)) [] [] f fd) : FnOk P w K mg base (L2.CX P w) (0 + 1) f fd ["stand"] (spU K mg u_p_makes_of) := by
  refine fn_u (N := ["stand", "make", "many"]) (ps := ["stand"]) (k := 0) F sc_p_makes_of (b := b_p_makes_of) (by decide) fun X W h => ?_
  have C := h.cf
  have hb_tuple : X.mg "tuple" = none := by rw [h.mg]; exact E.b_tuple
  have n0 : (["stand", "make", "many"] : List Str)[0]? = some ("stand" : Str) := rfl
  have v0 : visB (defScope (top 12)) "stand" = true := by decide +kernel
  have s0 : Sto X (defScope (top 12)) "stand" := sto_c h.fn (by decide +kernel)
  have n1 : (["stand", "make", "many"] : List Str)[1]? = some ("make" : Str) := rfl
  have n2 : (["stand", "make", "many"] : List Str)[2]? = some ("many" : Str) := rfl
  unfold b_p_makes_of
  exact (cs_cons (c1_ret (ce_tuple C.toCf0 (by decide +kernel) hb_tuple (ca_cons (ce_ofN (cn_comp C (CompU.mk (own := [("make", 1), ("many", 2)]) (ci_seq (ce_var C.toCf0 0 n0 (by decide +kernel))) (by decide +kernel) (fun _ _ _ _ _ => (cg_tup2 (Cf.blk C) (cg_name (Cf.blk C).toCf0 1 n1 (sto_l (by decide +kernel))) (cg_name (Cf.blk C).toCf0 2 n2 (sto_l (by decide +kernel))))) (fun _ _ _ _ _ => cts_nil) (fun _ _ _ _ _ => (ce_frz (ce_var (Cf.blk C).toCf0 1 n1 (by decide +kernel)))) (by decide) (fun _ => rfl)))) ca_nil))) cs_nil)
theorem ok_p_makes_of {P : Program} {w : World} {K : PySem.W.Frag} {mg : Str → Option Value} {base : Heap} (E : Env K mg) : Gv P w K mg base (0 + 1) "makes_of" [] (spU K mg u_p_makes_of) := by
  obtain ⟨f, fd, F, hmg⟩ := E.d_p_makes_of
  exact Gv.of F hmg (fo_p_makes_of E F) (F.bindsN fun _ _ _ _ _ _ us hl => match us, hl with | [_], _ => rfl) .nil
theorem xm_TooGreat {P : Program} {w : World} {K : PySem.W.Frag} {mg : Str → Option Value} {base : Heap} (E : Env K mg) {X : Cx} {W : WX} {sc : Scope} {N : List Str} {k : Nat} (h : Here X W P w K mg base sc N k) (hk : 2 ≤ k) : XMk X "TooGreat" ["many"] := by
  obtain ⟨fd, F⟩ := E.i_TooGreat
  exact xm1 h hk F (F.bindsN fun _ _ _ _ _ _ us hl => match us, hl with | [_, _], _ => rfl) E.j_TooGreat E.x_all E.hunt.1 E.hunt.2 (by decide +kernel) (by decide +kernel) ⟨rfl, rfl, rfl, by decide +kernel, rfl, by decide +kernel, by decide +kernel⟩ ⟨_, _, _, _, _, _, _, _, _, _, _, _, rfl, fun env => ⟨_, rfl⟩⟩ (by decide +kernel) (by decide +kernel) (by decide +kernel)
theorem sc_p_is_in : FnScope ["mask", "make"] ["mask", "make"] (defScope (top 7)) := ⟨rfl, rfl, rfl, by decide +kernel, rfl, by decide +kernel, by decide +kernel⟩
theorem fo_p_is_in {P : Program} {w : World} {K : PySem.W.Frag} {mg : Str → Option Value} {base : Heap} (E : Env K mg) {f : Addr} {fd : FuncData} (F : FunD K "is_in" "is_in" (defArgs (top 7)) (defBody (top 7)) (defScope (top 7)) [] [] f fd) : FnOk P w K mg base (L2.CX P w) (0 + 1) f fd ["mask", "make"] (spU K mg uIsIn) := by
  refine fn_u (N := ["mask", "make"]) (ps := ["mask", "make"]) (k := 0) F sc_p_is_in (b := bIsIn) (by decide) fun X W h => ?_
  have C := h.cf
  have n0 : (["mask", "make"] : List Str)[0]? = some ("mask" : Str) := rfl
  have v0 : visB (defScope (top 7)) "mask" = true := by decide +kernel
  have s0 : Sto X (defScope (top 7)) "mask" := sto_c h.fn (by decide +kernel)
  have n1 : (["mask", "make"] : List Str)[1]? = some ("make" : Str) := rfl
  have v1 : visB (defScope (top 7)) "make" = true := by decide +kernel
  have s1 : Sto X (defScope (top 7)) "make" := sto_c h.fn (by decide +kernel)
  unfold bIsIn
  exact (cs_cons (c1_ret (ce_eq C.toCf0 (ce_band (ce_shr (ce_var C.toCf0 0 n0 (by decide +kernel)) (ce_var C.toCf0 1 n1 (by decide +kernel))) ce_int) ce_int)) cs_nil)
theorem ok_p_is_in {P : Program} {w : World} {K : PySem.W.Frag} {mg : Str → Option Value} {base : Heap} (E : Env K mg) : Gv P w K mg base (0 + 1) "is_in" [] (spU K mg uIsIn) := by
  obtain ⟨f, fd, F, hmg⟩ := E.d_p_is_in
  exact Gv.of F hmg (fo_p_is_in E F) (F.bindsN fun _ _ _ _ _ _ us hl => match us, hl with | [_, _], _ => rfl) .nil
theorem sc_p_speaks : FnScope ["bits", "trial", "make", "tried", "answer"] ["bits", "trial", "make"] (defScope (top 9)) := ⟨rfl, rfl, rfl, by decide +kernel, rfl, by decide +kernel, by decide +kernel⟩
theorem fo_p_speaks {P : Program} {w : World} {K : PySem.W.Frag} {mg : Str → Option Value} {base : Heap} (E : Env K mg) {f : Addr} {fd : FuncData} (F : FunD K "speaks" "speaks" (defArgs (top 9)) (defBody (top 9)) (defScope (top 9)) [] [] f fd) : FnOk P w K mg base (L2.CX P w) (1 + 1) f fd ["bits", "trial", "make"] (spU K mg u_p_speaks) := by
  refine fn_u (N := ["bits", "trial", "make", "tried", "answer"]) (ps := ["bits", "trial", "make"]) (k := 1) F sc_p_speaks (b := b_p_speaks) (by decide) fun X W h => ?_
  have C := h.cf
  have c_p_is_in := (ok_p_is_in (P := P) (w := w) (base := base) E).u h (by omega)
  have n0 : (["bits", "trial", "make", "tried", "answer"] : List Str)[0]? = some ("bits" : Str) := rfl
  have v0 : visB (defScope (top 9)) "bits" = true := by decide +kernel
  have s0 : Sto X (defScope (top 9)) "bits" := sto_c h.fn (by decide +kernel)
  have n1 : (["bits", "trial", "make", "tried", "answer"] : List Str)[1]? = some ("trial" : Str) := rfl
  have v1 : visB (defScope (top 9)) "trial" = true := by decide +kernel
  have s1 : Sto X (defScope (top 9)) "trial" := sto_c h.fn (by decide +kernel)
  have n2 : (["bits", "trial", "make", "tried", "answer"] : List Str)[2]? = some ("make" : Str) := rfl
  have v2 : visB (defScope (top 9)) "make" = true := by decide +kernel
  have s2 : Sto X (defScope (top 9)) "make" := sto_c h.fn (by decide +kernel)
  have n3 : (["bits", "trial", "make", "tried", "answer"] : List Str)[3]? = some ("tried" : Str) := rfl
  have v3 : visB (defScope (top 9)) "tried" = true := by decide +kernel
  have s3 : Sto X (defScope (top 9)) "tried" := sto_c h.fn (by decide +kernel)
  have n4 : (["bits", "trial", "make", "tried", "answer"] : List Str)[4]? = some ("answer" : Str) := rfl
  have v4 : visB (defScope (top 9)) "answer" = true := by decide +kernel
  have s4 : Sto X (defScope (top 9)) "answer" := sto_c h.fn (by decide +kernel)
  unfold b_p_speaks
  exact (cs_cons (c1_setG (cg_tup2 C (cg_name C.toCf0 3 n3 s3) (cg_name C.toCf0 4 n4 s4)) (ce_frz (ce_var C.toCf0 1 n1 (by decide +kernel)))) (cs_cons (c1_if (ct_cmp (ce_eq C.toCf0 (ce_var C.toCf0 4 n4 (by decide +kernel)) ce_str)) (cs_cons (c1_ret (ce_not (ce_x (cx_call C.toCf0 c_p_is_in (by decide +kernel) (fun _ _ => .nil) (ca_cons (ce_ixB C.toCf0 (ce_var C.toCf0 0 n0 (by decide +kernel)) (ce_var C.toCf0 3 n3 (by decide +kernel))) (ca_cons (ce_var C.toCf0 2 n2 (by decide +kernel)) ca_nil)))))) cs_nil) cs_nil) (cs_cons (c1_ret (ce_and (ce_eq C.toCf0 (ce_var C.toCf0 4 n4 (by decide +kernel)) ce_str) (ce_one (ce_x (cx_call C.toCf0 c_p_is_in (by decide +kernel) (fun _ _ => .nil) (ca_cons (ce_ixB C.toCf0 (ce_var C.toCf0 0 n0 (by decide +kernel)) (ce_var C.toCf0 3 n3 (by decide +kernel))) (ca_cons (ce_var C.toCf0 2 n2 (by decide +kernel)) ca_nil))))))) cs_nil)))
theorem ok_p_speaks {P : Program} {w : World} {K : PySem.W.Frag} {mg : Str → Option Value} {base : Heap} (E : Env K mg) : Gv P w K mg base (1 + 1) "speaks" [] (spU K mg u_p_speaks) := by
  obtain ⟨f, fd, F, hmg⟩ := E.d_p_speaks
  exact Gv.of F hmg (fo_p_speaks E F) (F.bindsN fun _ _ _ _ _ _ us hl => match us, hl with | [_, _, _], _ => rfl) .nil
theorem sc_p_behind_bits : FnScope ["bits", "stand", "trial", "lies", "found", "make", "many", "more"] ["bits", "stand", "trial", "lies"] (defScope (top 11)) := ⟨rfl, rfl, rfl, by decide +kernel, rfl, by decide +kernel, by decide +kernel⟩
theorem fo_p_behind_bits {P : Program} {w : World} {K : PySem.W.Frag} {mg : Str → Option Value} {base : Heap} (E : Env K mg) {f : Addr} {fd : FuncData} (F : FunD K "behind_bits" "behind_bits" (defArgs (top 11)) (defBody (top 11)) (defScope (top 11)) [] [] f fd) : FnOk P w K mg base (L2.CX P w) (2 + 1) f fd ["bits", "stand", "trial", "lies"] (spU K mg u_p_behind_bits) := by
  refine fn_u (N := ["bits", "stand", "trial", "lies", "found", "make", "many", "more"]) (ps := ["bits", "stand", "trial", "lies"]) (k := 2) F sc_p_behind_bits (b := b_p_behind_bits) (by decide) fun X W h => ?_
  have C := h.cf
  have hb_int : X.mg "int" = none := by rw [h.mg]; exact E.b_int
  have hb_tuple : X.mg "tuple" = none := by rw [h.mg]; exact E.b_tuple
  have c_p_speaks := (ok_p_speaks (P := P) (w := w) (base := base) E).u h (by omega)
  have n0 : (["bits", "stand", "trial", "lies", "found", "make", "many", "more"] : List Str)[0]? = some ("bits" : Str) := rfl
  have v0 : visB (defScope (top 11)) "bits" = true := by decide +kernel
  have s0 : Sto X (defScope (top 11)) "bits" := sto_c h.fn (by decide +kernel)
  have n1 : (["bits", "stand", "trial", "lies", "found", "make", "many", "more"] : List Str)[1]? = some ("stand" : Str) := rfl
  have v1 : visB (defScope (top 11)) "stand" = true := by decide +kernel
  have s1 : Sto X (defScope (top 11)) "stand" := sto_c h.fn (by decide +kernel)
  have n2 : (["bits", "stand", "trial", "lies", "found", "make", "many", "more"] : List Str)[2]? = some ("trial" : Str) := rfl
  have v2 : visB (defScope (top 11)) "trial" = true := by decide +kernel
  have s2 : Sto X (defScope (top 11)) "trial" := sto_c h.fn (by decide +kernel)
  have n3 : (["bits", "stand", "trial", "lies", "found", "make", "many", "more"] : List Str)[3]? = some ("lies" : Str) := rfl
  have v3 : visB (defScope (top 11)) "lies" = true := by decide +kernel
  have s3 : Sto X (defScope (top 11)) "lies" := sto_c h.fn (by decide +kernel)
  have n4 : (["bits", "stand", "trial", "lies", "found", "make", "many", "more"] : List Str)[4]? = some ("found" : Str) := rfl
  have v4 : visB (defScope (top 11)) "found" = true := by decide +kernel
  have s4 : Sto X (defScope (top 11)) "found" := sto_c h.fn (by decide +kernel)
  have n5 : (["bits", "stand", "trial", "lies", "found", "make", "many", "more"] : List Str)[5]? = some ("make" : Str) := rfl
  have v5 : visB (defScope (top 11)) "make" = true := by decide +kernel
  have s5 : Sto X (defScope (top 11)) "make" := sto_c h.fn (by decide +kernel)
  have n6 : (["bits", "stand", "trial", "lies", "found", "make", "many", "more"] : List Str)[6]? = some ("many" : Str) := rfl
  have v6 : visB (defScope (top 11)) "many" = true := by decide +kernel
  have s6 : Sto X (defScope (top 11)) "many" := sto_c h.fn (by decide +kernel)
  have n7 : (["bits", "stand", "trial", "lies", "found", "make", "many", "more"] : List Str)[7]? = some ("more" : Str) := rfl
  have v7 : visB (defScope (top 11)) "more" = true := by decide +kernel
  have s7 : Sto X (defScope (top 11)) "more" := sto_c h.fn (by decide +kernel)
  unfold b_p_behind_bits
  exact (cs_cons (c1_setX C.toCf0 4 n4 s4 (cx_c (cc_l (cn_lst ca_nil)))) (cs_cons (c1_for C [5, 6, 7] (ci_seq (ce_var C.toCf0 1 n1 (by decide +kernel))) (cg_tup2 C (cg_name C.toCf0 5 n5 s5) (cg_name C.toCf0 6 n6 s6)) (cs_cons (c1_set C.toCf0 7 n7 s7 (ce_add (ce_var C.toCf0 6 n6 (by decide +kernel)) (ce_intc C.toCf0 (by decide +kernel) hb_int (ca_cons (ce_x (cx_call C.toCf0 c_p_speaks (by decide +kernel) (fun _ _ => .nil) (ca_cons (ce_var C.toCf0 0 n0 (by decide +kernel)) (ca_cons (ce_var C.toCf0 2 n2 (by decide +kernel)) (ca_cons (ce_var C.toCf0 5 n5 (by decide +kernel)) ca_nil))))) ca_nil)))) (cs_cons (c1_if (ct_cmp (ce_le (ce_var C.toCf0 7 n7 (by decide +kernel)) (ce_var C.toCf0 3 n3 (by decide +kernel)))) (cs_cons (c1_expr (ce_append C.toCf0 4 n4 (by decide +kernel) (ce_tup (ca_cons (ce_frz (ce_var C.toCf0 5 n5 (by decide +kernel))) (ca_cons (ce_frz (ce_var C.toCf0 7 n7 (by decide +kernel))) ca_nil))))) cs_nil) cs_nil) cs_nil))) (cs_cons (c1_ret (ce_tuple C.toCf0 (by decide +kernel) hb_tuple (ca_cons (ce_var C.toCf0 4 n4 (by decide +kernel)) ca_nil))) cs_nil)))
theorem ok_p_behind_bits {P : Program} {w : World} {K : PySem.W.Frag} {mg : Str → Option Value} {base : Heap} (E : Env K mg) : Gv P w K mg base (2 + 1) "behind_bits" [] (spU K mg u_p_behind_bits) := by
  obtain ⟨f, fd, F, hmg⟩ := E.d_p_behind_bits
  exact Gv.of F hmg (fo_p_behind_bits E F) (F.bindsN fun _ _ _ _ _ _ us hl => match us, hl with | [_, _, _, _], _ => rfl) .nil
theorem sc_p_ways_on : FnScope ["bits", "stand", "barred", "lies", "ways", "make", "bad"] ["bits", "stand", "barred", "lies"] (defScope (top 17)) := ⟨rfl, rfl, rfl, by decide +kernel, rfl, by decide +kernel, by decide +kernel⟩
theorem fo_p_ways_on {P : Program} {w : World} {K : PySem.W.Frag} {mg : Str → Option Value} {base : Heap} (E : Env K mg) {f : Addr} {fd : FuncData} (F : FunD K "ways_on" "ways_on" (defArgs (top 17)) (defBody (top 17)) (defScope (top 17)) [] [] f fd) : FnOk P w K mg base (L2.CX P w) (3 + 1) f fd ["bits", "stand", "barred", "lies"] (spU K mg u_p_ways_on) := by
  refine fn_u (N := ["bits", "stand", "barred", "lies", "ways", "make", "bad"]) (ps := ["bits", "stand", "barred", "lies"]) (k := 3) F sc_p_ways_on (b := b_p_ways_on) (by decide) fun X W h => ?_
  have C := h.cf
  have c_p_useful_bits := (ok_p_useful_bits (P := P) (w := w) (base := base) E).u h (by omega)
  have c_p_makes_of := (ok_p_makes_of (P := P) (w := w) (base := base) E).u h (by omega)
  have c_p_behind_bits := (ok_p_behind_bits (P := P) (w := w) (base := base) E).u h (by omega)
  have n0 : (["bits", "stand", "barred", "lies", "ways", "make", "bad"] : List Str)[0]? = some ("bits" : Str) := rfl
  have v0 : visB (defScope (top 17)) "bits" = true := by decide +kernel
  have s0 : Sto X (defScope (top 17)) "bits" := sto_c h.fn (by decide +kernel)
  have n1 : (["bits", "stand", "barred", "lies", "ways", "make", "bad"] : List Str)[1]? = some ("stand" : Str) := rfl
  have v1 : visB (defScope (top 17)) "stand" = true := by decide +kernel
  have s1 : Sto X (defScope (top 17)) "stand" := sto_c h.fn (by decide +kernel)
  have n2 : (["bits", "stand", "barred", "lies", "ways", "make", "bad"] : List Str)[2]? = some ("barred" : Str) := rfl
  have v2 : visB (defScope (top 17)) "barred" = true := by decide +kernel
  have s2 : Sto X (defScope (top 17)) "barred" := sto_c h.fn (by decide +kernel)
  have n3 : (["bits", "stand", "barred", "lies", "ways", "make", "bad"] : List Str)[3]? = some ("lies" : Str) := rfl
  have v3 : visB (defScope (top 17)) "lies" = true := by decide +kernel
  have s3 : Sto X (defScope (top 17)) "lies" := sto_c h.fn (by decide +kernel)
  have n4 : (["bits", "stand", "barred", "lies", "ways", "make", "bad"] : List Str)[4]? = some ("ways" : Str) := rfl
  have v4 : visB (defScope (top 17)) "ways" = true := by decide +kernel
  have s4 : Sto X (defScope (top 17)) "ways" := sto_c h.fn (by decide +kernel)
  have n5 : (["bits", "stand", "barred", "lies", "ways", "make", "bad"] : List Str)[5]? = some ("make" : Str) := rfl
  have v5 : visB (defScope (top 17)) "make" = true := by decide +kernel
  have s5 : Sto X (defScope (top 17)) "make" := sto_c h.fn (by decide +kernel)
  have n6 : (["bits", "stand", "barred", "lies", "ways", "make", "bad"] : List Str)[6]? = some ("bad" : Str) := rfl
  have v6 : visB (defScope (top 17)) "bad" = true := by decide +kernel
  have s6 : Sto X (defScope (top 17)) "bad" := sto_c h.fn (by decide +kernel)
  unfold b_p_ways_on
  exact (cs_cons (c1_setX C.toCf0 4 n4 s4 (cx_c (cc_l (cn_lst ca_nil)))) (cs_cons (c1_for C [5, 6] (ci_seq (ce_x (cx_call C.toCf0 c_p_useful_bits (by decide +kernel) (fun _ _ => .nil) (ca_cons (ce_var C.toCf0 0 n0 (by decide +kernel)) (ca_cons (ce_x (cx_call C.toCf0 c_p_makes_of (by decide +kernel) (fun _ _ => .nil) (ca_cons (ce_var C.toCf0 1 n1 (by decide +kernel)) ca_nil))) (ca_cons (ce_var C.toCf0 2 n2 (by decide +kernel)) ca_nil)))))) (cg_name C.toCf0 5 n5 s5) (cs_cons (c1_set C.toCf0 6 n6 s6 (ce_x (cx_call C.toCf0 c_p_behind_bits (by decide +kernel) (fun _ _ => .nil) (ca_cons (ce_var C.toCf0 0 n0 (by decide +kernel)) (ca_cons (ce_var C.toCf0 1 n1 (by decide +kernel)) (ca_cons (ce_tup (ca_cons (ce_frz (ce_var C.toCf0 5 n5 (by decide +kernel))) (ca_cons ce_str ca_nil))) (ca_cons (ce_var C.toCf0 3 n3 (by decide +kernel)) ca_nil))))))) (cs_cons (c1_expr (ce_append C.toCf0 4 n4 (by decide +kernel) (ce_tup (ca_cons (ce_frz (ce_var C.toCf0 5 n5 (by decide +kernel))) (ca_cons (ce_frz (ce_var C.toCf0 6 n6 (by decide +kernel))) (ca_cons (ce_x (cx_call C.toCf0 c_p_behind_bits (by decide +kernel) (fun _ _ => .nil) (ca_cons (ce_var C.toCf0 0 n0 (by decide +kernel)) (ca_cons (ce_var C.toCf0 1 n1 (by decide +kernel)) (ca_cons (ce_tup (ca_cons (ce_frz (ce_var C.toCf0 5 n5 (by decide +kernel))) (ca_cons ce_str ca_nil))) (ca_cons (ce_var C.toCf0 3 n3 (by decide +kernel)) ca_nil)))))) ca_nil)))))) cs_nil))) (cs_cons (c1_retO C.toCf0 4 n4 (by decide +kernel)) cs_nil)))
theorem ok_p_ways_on {P : Program} {w : World} {K : PySem.W.Frag} {mg : Str → Option Value} {base : Heap} (E : Env K mg) : Gv P w K mg base (3 + 1) "ways_on" [] (spU K mg u_p_ways_on) := by
  obtain ⟨f, fd, F, hmg⟩ := E.d_p_ways_on
  exact Gv.of F hmg (fo_p_ways_on E F) (F.bindsN fun _ _ _ _ _ _ us hl => match us, hl with | [_, _, _, _], _ => rfl) .nil
theorem sc_p_all_ways : FnScope ["bits", "stand", "barred", "lies", "ways", "waiting", "here", "make", "bad", "good"] ["bits", "stand", "barred", "lies"] (defScope (top 18)) := ⟨rfl, rfl, rfl, by decide +kernel, rfl, by decide +kernel, by decide +kernel⟩
theorem fo_p_all_ways {P : Program} {w : World} {K : PySem.W.Frag} {mg : Str → Option Value} {base : Heap} (E : Env K mg) {f : Addr} {fd : FuncData} (F : FunD K "all_ways" "all_ways" (defArgs (top 18)) (defBody (top 18)) (defScope (top 18)) [] [] f fd) : FnOk P w K mg base (L2.CX P w) (4 + 1) f fd ["bits", "stand", "barred", "lies"] (spU K mg u_p_all_ways) := by
  refine fn_u (N := ["bits", "stand", "barred", "lies", "ways", "waiting", "here", "make", "bad", "good"]) (ps := ["bits", "stand", "barred", "lies"]) (k := 4) F sc_p_all_ways (b := b_p_all_ways) (by decide) fun X W h => ?_
  have C := h.cf
  have c_p_ways_on := (ok_p_ways_on (P := P) (w := w) (base := base) E).u h (by omega)
  have n0 : (["bits", "stand", "barred", "lies", "ways", "waiting", "here", "make", "bad", "good"] : List Str)[0]? = some ("bits" : Str) := rfl
  have v0 : visB (defScope (top 18)) "bits" = true := by decide +kernel
  have s0 : Sto X (defScope (top 18)) "bits" := sto_c h.fn (by decide +kernel)
  have n1 : (["bits", "stand", "barred", "lies", "ways", "waiting", "here", "make", "bad", "good"] : List Str)[1]? = some ("stand" : Str) := rfl
  have v1 : visB (defScope (top 18)) "stand" = true := by decide +kernel
  have s1 : Sto X (defScope (top 18)) "stand" := sto_c h.fn (by decide +kernel)
  have n2 : (["bits", "stand", "barred", "lies", "ways", "waiting", "here", "make", "bad", "good"] : List Str)[2]? = some ("barred" : Str) := rfl
  have v2 : visB (defScope (top 18)) "barred" = true := by decide +kernel
  have s2 : Sto X (defScope (top 18)) "barred" := sto_c h.fn (by decide +kernel)
  have n3 : (["bits", "stand", "barred", "lies", "ways", "waiting", "here", "make", "bad", "good"] : List Str)[3]? = some ("lies" : Str) := rfl
  have v3 : visB (defScope (top 18)) "lies" = true := by decide +kernel
  have s3 : Sto X (defScope (top 18)) "lies" := sto_c h.fn (by decide +kernel)
  have n4 : (["bits", "stand", "barred", "lies", "ways", "waiting", "here", "make", "bad", "good"] : List Str)[4]? = some ("ways" : Str) := rfl
  have v4 : visB (defScope (top 18)) "ways" = true := by decide +kernel
  have s4 : Sto X (defScope (top 18)) "ways" := sto_c h.fn (by decide +kernel)
  have n5 : (["bits", "stand", "barred", "lies", "ways", "waiting", "here", "make", "bad", "good"] : List Str)[5]? = some ("waiting" : Str) := rfl
  have v5 : visB (defScope (top 18)) "waiting" = true := by decide +kernel
  have s5 : Sto X (defScope (top 18)) "waiting" := sto_c h.fn (by decide +kernel)
  have n6 : (["bits", "stand", "barred", "lies", "ways", "waiting", "here", "make", "bad", "good"] : List Str)[6]? = some ("here" : Str) := rfl
  have v6 : visB (defScope (top 18)) "here" = true := by decide +kernel
  have s6 : Sto X (defScope (top 18)) "here" := sto_c h.fn (by decide +kernel)
  have n7 : (["bits", "stand", "barred", "lies", "ways", "waiting", "here", "make", "bad", "good"] : List Str)[7]? = some ("make" : Str) := rfl
  have v7 : visB (defScope (top 18)) "make" = true := by decide +kernel
  have s7 : Sto X (defScope (top 18)) "make" := sto_c h.fn (by decide +kernel)
  have n8 : (["bits", "stand", "barred", "lies", "ways", "waiting", "here", "make", "bad", "good"] : List Str)[8]? = some ("bad" : Str) := rfl
  have v8 : visB (defScope (top 18)) "bad" = true := by decide +kernel
  have s8 : Sto X (defScope (top 18)) "bad" := sto_c h.fn (by decide +kernel)
  have n9 : (["bits", "stand", "barred", "lies", "ways", "waiting", "here", "make", "bad", "good"] : List Str)[9]? = some ("good" : Str) := rfl
  have v9 : visB (defScope (top 18)) "good" = true := by decide +kernel
  have s9 : Sto X (defScope (top 18)) "good" := sto_c h.fn (by decide +kernel)
  unfold b_p_all_ways
  exact (cs_cons (c1_setX C.toCf0 4 n4 s4 (cx_c (cc_dic0 .n))) (cs_cons (c1_setX C.toCf0 5 n5 s5 (cx_c (cc_l (cn_lst (ca_cons (ce_frz (ce_var C.toCf0 1 n1 (by decide +kernel))) ca_nil))))) (cs_cons (c1_while C.toCf0 [6, 7, 8, 9] (fun _ => 1000000) (ct_cmp (ce_ne C.toCf0 (ce_var C.toCf0 5 n5 (by decide +kernel)) (ce_ofN (cn_lst ca_nil)))) (cs_cons (c1_set C.toCf0 6 n6 s6 (ce_pop C.toCf0 5 n5 (by decide +kernel))) (cs_cons (c1_if (ct_cmp (ce_notinN C.toCf0 (ce_var C.toCf0 6 n6 (by decide +kernel)) (ce_var C.toCf0 4 n4 (by decide +kernel)))) (cs_cons (c1_putN C.toCf0 4 n4 v4 (ce_x (cx_call C.toCf0 c_p_ways_on (by decide +kernel) (fun _ _ => .nil) (ca_cons (ce_var C.toCf0 0 n0 (by decide +kernel)) (ca_cons (ce_var C.toCf0 6 n6 (by decide +kernel)) (ca_cons (ce_var C.toCf0 2 n2 (by decide +kernel)) (ca_cons (ce_var C.toCf0 3 n3 (by decide +kernel)) ca_nil)))))) (ce_var C.toCf0 6 n6 (by decide +kernel))) (cs_cons (c1_for C [7, 8, 9] (ci_seq (ce_ixN C.toCf0 (ce_var C.toCf0 4 n4 (by decide +kernel)) (ce_var C.toCf0 6 n6 (by decide +kernel)))) (cg_tup3 C (cg_name C.toCf0 7 n7 s7) (cg_name C.toCf0 8 n8 s8) (cg_name C.toCf0 9 n9 s9)) (cs_cons (c1_expr (ce_extend C.toCf0 5 n5 (by decide +kernel) (cn_lst (ca_cons (ce_frz (ce_var C.toCf0 8 n8 (by decide +kernel))) (ca_cons (ce_frz (ce_var C.toCf0 9 n9 (by decide +kernel))) ca_nil))))) cs_nil)) cs_nil)) cs_nil) cs_nil))) (cs_cons (c1_retO C.toCf0 4 n4 (by decide +kernel)) cs_nil))))
theorem ok_p_all_ways {P : Program} {w : World} {K : PySem.W.Frag} {mg : Str → Option Value} {base : Heap} (E : Env K mg) : Gv P w K mg base (4 + 1) "all_ways" [] (spU K mg u_p_all_ways) := by
  obtain ⟨f, fd, F, hmg⟩ := E.d_p_all_ways
  exact Gv.of F hmg (fo_p_all_ways E F) (F.bindsN fun _ _ _ _ _ _ us hl => match us, hl with | [_, _, _, _], _ => rfl) .nil
theorem sc_p_priced : FnScope ["net", "prices", "make"] ["net", "prices"] (defScope (top 15)) := ⟨rfl, rfl, rfl, by decide +kernel, rfl, by decide +kernel, by decide +kernel⟩
theorem fo_p_priced {P : Program} {w : World} {K : PySem.W.Frag} {mg : Str → Option Value} {base : Heap} (E : Env K mg) {f : Addr} {fd : FuncData} (F : FunD K "priced" "priced" (defArgs (top 15)) (defBody (top 15)) (defScope (top 15)) [] [] f fd) : FnOk P w K mg base (L2.CX P w) (0 + 1) f fd ["net", "prices"] (spU K mg u_p_priced) := by
  refine fn_u (N := ["net", "prices", "make"]) (ps := ["net", "prices"]) (k := 0) F sc_p_priced (b := b_p_priced) (by decide) fun X W h => ?_
  have C := h.cf
  have hb_list : X.mg "list" = none := by rw [h.mg]; exact E.b_list
  have n0 : (["net", "prices", "make"] : List Str)[0]? = some ("net" : Str) := rfl
  have v0 : visB (defScope (top 15)) "net" = true := by decide +kernel
  have s0 : Sto X (defScope (top 15)) "net" := sto_c h.fn (by decide +kernel)
  have n1 : (["net", "prices", "make"] : List Str)[1]? = some ("prices" : Str) := rfl
  have v1 : visB (defScope (top 15)) "prices" = true := by decide +kernel
  have s1 : Sto X (defScope (top 15)) "prices" := sto_c h.fn (by decide +kernel)
  have n2 : (["net", "prices", "make"] : List Str)[2]? = some ("make" : Str) := rfl
  unfold b_p_priced
  exact (cs_cons (c1_if (ct_cmp (ce_is (ce_var C.toCf0 1 n1 (by decide +kernel)) ce_none)) (cs_cons (c1_retC (cc_l (cn_comp C (CompU.mk (own := [("make", 2)]) (ci_seq (ce_var C.toCf0 0 n0 (by decide +kernel))) (by decide +kernel) (fun _ _ _ _ _ => (cg_name (Cf.blk C).toCf0 2 n2 (sto_l (by decide +kernel)))) (fun _ _ _ _ _ => cts_nil) (fun _ _ _ _ _ => ce_int) (by decide) (fun _ => rfl))))) cs_nil) cs_nil) (cs_cons (c1_retC (cc_l (cn_list C.toCf0 (by decide +kernel) hb_list (ca_cons (ce_var C.toCf0 1 n1 (by decide +kernel)) ca_nil)))) cs_nil))
theorem ok_p_priced {P : Program} {w : World} {K : PySem.W.Frag} {mg : Str → Option Value} {base : Heap} (E : Env K mg) : Gv P w K mg base (0 + 1) "priced" [] (spU K mg u_p_priced) := by
  obtain ⟨f, fd, F, hmg⟩ := E.d_p_priced
  exact Gv.of F hmg (fo_p_priced E F) (F.bindsN fun _ _ _ _ _ _ us hl => match us, hl with | [_, _], _ => rfl) .nil
theorem sc_p_room_in : FnScope ["stand", "lies", "make", "many"] ["stand", "lies"] (defScope (top 19)) := ⟨rfl, rfl, rfl, by decide +kernel, rfl, by decide +kernel, by decide +kernel⟩
theorem fo_p_room_in {P : Program} {w : World} {K : PySem.W.Frag} {mg : Str → Option Value} {base : Heap} (E : Env K mg) {f : Addr} {fd : FuncData} (F : FunD K "room_in" "room_in" (defArgs (top 19)) (defBody (top 19)) (defScope (top 19)) [] [] f fd) : FnOk P w K mg base (L2.CX P w) (0 + 1) f fd ["stand", "lies"] (spU K mg u_p_room_in) := by
  refine fn_u (N := ["stand", "lies", "make", "many"]) (ps := ["stand", "lies"]) (k := 0) F sc_p_room_in (b := b_p_room_in) (by decide) fun X W h => ?_
  have C := h.cf
  have hb_sum : X.mg "sum" = none := by rw [h.mg]; exact E.b_sum
  have n0 : (["stand", "lies", "make", "many"] : List Str)[0]? = some ("stand" : Str) := rfl
  have v0 : visB (defScope (top 19)) "stand" = true := by decide +kernel
  have s0 : Sto X (defScope (top 19)) "stand" := sto_c h.fn (by decide +kernel)
  have n1 : (["stand", "lies", "make", "many"] : List Str)[1]? = some ("lies" : Str) := rfl
  have v1 : visB (defScope (top 19)) "lies" = true := by decide +kernel
  have s1 : Sto X (defScope (top 19)) "lies" := sto_c h.fn (by decide +kernel)
  have n2 : (["stand", "lies", "make", "many"] : List Str)[2]? = some ("make" : Str) := rfl
  have n3 : (["stand", "lies", "make", "many"] : List Str)[3]? = some ("many" : Str) := rfl
  unfold b_p_room_in
  exact (cs_cons (c1_ret (ce_sum C (by decide +kernel) hb_sum (ca_cons (ce_ofN (cn_comp C (CompU.mk (own := [("make", 2), ("many", 3)]) (ci_seq (ce_var C.toCf0 0 n0 (by decide +kernel))) (by decide +kernel) (fun _ _ _ _ _ => (cg_tup2 (Cf.blk C) (cg_name (Cf.blk C).toCf0 2 n2 (sto_l (by decide +kernel))) (cg_name (Cf.blk C).toCf0 3 n3 (sto_l (by decide +kernel))))) (fun _ _ _ _ _ => cts_nil) (fun _ _ _ _ _ => (ce_frz (ce_sub (ce_add (ce_var (Cf.blk C).toCf0 1 n1 (by decide +kernel)) ce_int) (ce_var (Cf.blk C).toCf0 3 n3 (by decide +kernel))))) (by decide) (fun _ => rfl)))) ca_nil))) cs_nil)
theorem ok_p_room_in {P : Program} {w : World} {K : PySem.W.Frag} {mg : Str → Option Value} {base : Heap} (E : Env K mg) : Gv P w K mg base (0 + 1) "room_in" [] (spU K mg u_p_room_in) := by
  obtain ⟨f, fd, F, hmg⟩ := E.d_p_room_in
  exact Gv.of F hmg (fo_p_room_in E F) (F.bindsN fun _ _ _ _ _ _ us hl => match us, hl with | [_, _], _ => rfl) .nil
theorem sc_p_best_way : FnScope ["ways", "best", "prices", "found", "make", "bad", "good", "number"] ["ways", "best", "prices"] (defScope (top 20)) := ⟨rfl, rfl, rfl, by decide +kernel, rfl, by decide +kernel, by decide +kernel⟩
theorem fo_p_best_way {P : Program} {w : World} {K : PySem.W.Frag} {mg : Str → Option Value} {base : Heap} (E : Env K mg) {f : Addr} {fd : FuncData} (F : FunD K "best_way" "best_way" (defArgs (top 20)) (defBody (top 20)) (defScope (top 20)) [] [] f fd) : FnOk P w K mg base (L2.CX P w) (0 + 1) f fd ["ways", "best", "prices"] (spU K mg u_p_best_way) := by
  refine fn_u (N := ["ways", "best", "prices", "found", "make", "bad", "good", "number"]) (ps := ["ways", "best", "prices"]) (k := 0) F sc_p_best_way (b := b_p_best_way) (by decide) fun X W h => ?_
  have C := h.cf
  have hb_max : X.mg "max" = none := by rw [h.mg]; exact E.b_max
  have n0 : (["ways", "best", "prices", "found", "make", "bad", "good", "number"] : List Str)[0]? = some ("ways" : Str) := rfl
  have v0 : visB (defScope (top 20)) "ways" = true := by decide +kernel
  have s0 : Sto X (defScope (top 20)) "ways" := sto_c h.fn (by decide +kernel)
  have n1 : (["ways", "best", "prices", "found", "make", "bad", "good", "number"] : List Str)[1]? = some ("best" : Str) := rfl
  have v1 : visB (defScope (top 20)) "best" = true := by decide +kernel
  have s1 : Sto X (defScope (top 20)) "best" := sto_c h.fn (by decide +kernel)
  have n2 : (["ways", "best", "prices", "found", "make", "bad", "good", "number"] : List Str)[2]? = some ("prices" : Str) := rfl
  have v2 : visB (defScope (top 20)) "prices" = true := by decide +kernel
  have s2 : Sto X (defScope (top 20)) "prices" := sto_c h.fn (by decide +kernel)
  have n3 : (["ways", "best", "prices", "found", "make", "bad", "good", "number"] : List Str)[3]? = some ("found" : Str) := rfl
  have v3 : visB (defScope (top 20)) "found" = true := by decide +kernel
  have s3 : Sto X (defScope (top 20)) "found" := sto_c h.fn (by decide +kernel)
  have n4 : (["ways", "best", "prices", "found", "make", "bad", "good", "number"] : List Str)[4]? = some ("make" : Str) := rfl
  have v4 : visB (defScope (top 20)) "make" = true := by decide +kernel
  have s4 : Sto X (defScope (top 20)) "make" := sto_c h.fn (by decide +kernel)
  have n5 : (["ways", "best", "prices", "found", "make", "bad", "good", "number"] : List Str)[5]? = some ("bad" : Str) := rfl
  have v5 : visB (defScope (top 20)) "bad" = true := by decide +kernel
  have s5 : Sto X (defScope (top 20)) "bad" := sto_c h.fn (by decide +kernel)
  have n6 : (["ways", "best", "prices", "found", "make", "bad", "good", "number"] : List Str)[6]? = some ("good" : Str) := rfl
  have v6 : visB (defScope (top 20)) "good" = true := by decide +kernel
  have s6 : Sto X (defScope (top 20)) "good" := sto_c h.fn (by decide +kernel)
  have n7 : (["ways", "best", "prices", "found", "make", "bad", "good", "number"] : List Str)[7]? = some ("number" : Str) := rfl
  have v7 : visB (defScope (top 20)) "number" = true := by decide +kernel
  have s7 : Sto X (defScope (top 20)) "number" := sto_c h.fn (by decide +kernel)
  unfold b_p_best_way
  exact (cs_cons (c1_set C.toCf0 3 n3 s3 (ce_tup (ca_cons ce_int (ca_cons ce_none ca_nil)))) (cs_cons (c1_for C [4, 5, 6, 7] (ci_seq (ce_var C.toCf0 0 n0 (by decide +kernel))) (cg_tup3 C (cg_name C.toCf0 4 n4 s4) (cg_name C.toCf0 5 n5 s5) (cg_name C.toCf0 6 n6 s6)) (cs_cons (c1_set C.toCf0 7 n7 s7 (ce_add (ce_ixB C.toCf0 (ce_var C.toCf0 2 n2 (by decide +kernel)) (ce_var C.toCf0 4 n4 (by decide +kernel))) (ce_max2 C (by decide +kernel) hb_max (ca_cons (ce_ixB C.toCf0 (ce_ixN C.toCf0 (ce_var C.toCf0 1 n1 (by decide +kernel)) (ce_var C.toCf0 5 n5 (by decide +kernel))) ce_int) (ca_cons (ce_ixB C.toCf0 (ce_ixN C.toCf0 (ce_var C.toCf0 1 n1 (by decide +kernel)) (ce_var C.toCf0 6 n6 (by decide +kernel))) ce_int) ca_nil))))) (cs_cons (c1_if (ct_w (cw_or (ct_cmp (ce_is (ce_ixB C.toCf0 (ce_var C.toCf0 3 n3 (by decide +kernel)) ce_int) ce_none)) (cw_or1 (ct_cmp (ce_lt (ce_var C.toCf0 7 n7 (by decide +kernel)) (ce_ixB C.toCf0 (ce_var C.toCf0 3 n3 (by decide +kernel)) ce_int)))))) (cs_cons (c1_set C.toCf0 3 n3 s3 (ce_tup (ca_cons (ce_frz (ce_var C.toCf0 7 n7 (by decide +kernel))) (ca_cons (ce_frz (ce_var C.toCf0 4 n4 (by decide +kernel))) ca_nil)))) cs_nil) cs_nil) cs_nil))) (cs_cons (c1_ret (ce_var C.toCf0 3 n3 (by decide +kernel))) cs_nil)))
theorem ok_p_best_way {P : Program} {w : World} {K : PySem.W.Frag} {mg : Str → Option Value} {base : Heap} (E : Env K mg) : Gv P w K mg base (0 + 1) "best_way" [] (spU K mg u_p_best_way) := by
  obtain ⟨f, fd, F, hmg⟩ := E.d_p_best_way
  exact Gv.of F hmg (fo_p_best_way E F) (F.bindsN fun _ _ _ _ _ _ us hl => match us, hl with | [_, _, _], _ => rfl) .nil
theorem sc_p_best_of : FnScope ["net", "stand", "barred", "lies", "prices", "bits", "shut", "ways", "row", "best", "room", "here", "one"] ["net", "stand", "barred", "lies", "prices"] (defScope (top 21)) := ⟨rfl, rfl, rfl, by decide +kernel, rfl, by decide +kernel, by decide +kernel⟩
theorem fo_p_best_of {P : Program} {w : World} {K : PySem.W.Frag} {mg : Str → Option Value} {base : Heap} (E : Env K mg) {f : Addr} {fd : FuncData} (F : FunD K "best_of" "best_of" (defArgs (top 21)) (defBody (top 21)) (defScope (top 21)) [] [] f fd) : FnOk P w K mg base (L2.CX P w) (5 + 1) f fd ["net", "stand", "barred", "lies", "prices"] (spU K mg u_p_best_of) := by
  refine fn_u (N := ["net", "stand", "barred", "lies", "prices", "bits", "shut", "ways", "row", "best", "room", "here", "one"]) (ps := ["net", "stand", "barred", "lies", "prices"]) (k := 5) F sc_p_best_of (b := b_p_best_of) (by decide) fun X W h => ?_
  have C := h.cf
  have hb_len : X.mg "len" = none := by rw [h.mg]; exact E.b_len
  have hb_sorted : X.mg "sorted" = none := by rw [h.mg]; exact E.b_sorted
  have c_p_bits_of := (ok_p_bits_of (P := P) (w := w) (base := base) E).u h (by omega)
  have c_p_some_of := (ok_p_some_of (P := P) (w := w) (base := base) E).u h (by omega)
  have c_p_useful_bits := (ok_p_useful_bits (P := P) (w := w) (base := base) E).u h (by omega)
  have c_p_makes_of := (ok_p_makes_of (P := P) (w := w) (base := base) E).u h (by omega)
  have c_p_all_ways := (ok_p_all_ways (P := P) (w := w) (base := base) E).u h (by omega)
  have c_p_priced := (ok_p_priced (P := P) (w := w) (base := base) E).u h (by omega)
  have c_p_room_in := (ok_p_room_in (P := P) (w := w) (base := base) E).u h (by omega)
  have c_p_best_way := (ok_p_best_way (P := P) (w := w) (base := base) E).u h (by omega)
  have hX : XAll X.K X.mg ["TooGreat"] [] [] ["many"] := by rw [h.K, h.mg]; exact E.x_all
  have ht_MOST : GT X.K X.mg "MOST" [.int 10, .int 6, .int 4, .int 3] [.int 10, .int 6, .int 4, .int 3] := by rw [h.K, h.mg]; exact E.t_MOST
  have m_TooGreat := xm_TooGreat E h (by omega)
  have n0 : (["net", "stand", "barred", "lies", "prices", "bits", "shut", "ways", "row", "best", "room", "here", "one"] : List Str)[0]? = some ("net" : Str) := rfl
  have v0 : visB (defScope (top 21)) "net" = true := by decide +kernel
  have s0 : Sto X (defScope (top 21)) "net" := sto_c h.fn (by decide +kernel)
  have n1 : (["net", "stand", "barred", "lies", "prices", "bits", "shut", "ways", "row", "best", "room", "here", "one"] : List Str)[1]? = some ("stand" : Str) := rfl
  have v1 : visB (defScope (top 21)) "stand" = true := by decide +kernel
  have s1 : Sto X (defScope (top 21)) "stand" := sto_c h.fn (by decide +kernel)
  have n2 : (["net", "stand", "barred", "lies", "prices", "bits", "shut", "ways", "row", "best", "room", "here", "one"] : List Str)[2]? = some ("barred" : Str) := rfl
  have v2 : visB (defScope (top 21)) "barred" = true := by decide +kernel
  have s2 : Sto X (defScope (top 21)) "barred" := sto_c h.fn (by decide +kernel)
  have n3 : (["net", "stand", "barred", "lies", "prices", "bits", "shut", "ways", "row", "best", "room", "here", "one"] : List Str)[3]? = some ("lies" : Str) := rfl
  have v3 : visB (defScope (top 21)) "lies" = true := by decide +kernel
  have s3 : Sto X (defScope (top 21)) "lies" := sto_c h.fn (by decide +kernel)
  have n4 : (["net", "stand", "barred", "lies", "prices", "bits", "shut", "ways", "row", "best", "room", "here", "one"] : List Str)[4]? = some ("prices" : Str) := rfl
  have v4 : visB (defScope (top 21)) "prices" = true := by decide +kernel
  have s4 : Sto X (defScope (top 21)) "prices" := sto_c h.fn (by decide +kernel)
  have n5 : (["net", "stand", "barred", "lies", "prices", "bits", "shut", "ways", "row", "best", "room", "here", "one"] : List Str)[5]? = some ("bits" : Str) := rfl
  have v5 : visB (defScope (top 21)) "bits" = true := by decide +kernel
  have s5 : Sto X (defScope (top 21)) "bits" := sto_c h.fn (by decide +kernel)
  have n6 : (["net", "stand", "barred", "lies", "prices", "bits", "shut", "ways", "row", "best", "room", "here", "one"] : List Str)[6]? = some ("shut" : Str) := rfl
  have v6 : visB (defScope (top 21)) "shut" = true := by decide +kernel
  have s6 : Sto X (defScope (top 21)) "shut" := sto_c h.fn (by decide +kernel)
  have n7 : (["net", "stand", "barred", "lies", "prices", "bits", "shut", "ways", "row", "best", "room", "here", "one"] : List Str)[7]? = some ("ways" : Str) := rfl
  have v7 : visB (defScope (top 21)) "ways" = true := by decide +kernel
  have s7 : Sto X (defScope (top 21)) "ways" := sto_c h.fn (by decide +kernel)
  have n8 : (["net", "stand", "barred", "lies", "prices", "bits", "shut", "ways", "row", "best", "room", "here", "one"] : List Str)[8]? = some ("row" : Str) := rfl
  have v8 : visB (defScope (top 21)) "row" = true := by decide +kernel
  have s8 : Sto X (defScope (top 21)) "row" := sto_c h.fn (by decide +kernel)
  have n9 : (["net", "stand", "barred", "lies", "prices", "bits", "shut", "ways", "row", "best", "room", "here", "one"] : List Str)[9]? = some ("best" : Str) := rfl
  have v9 : visB (defScope (top 21)) "best" = true := by decide +kernel
  have s9 : Sto X (defScope (top 21)) "best" := sto_c h.fn (by decide +kernel)
  have n10 : (["net", "stand", "barred", "lies", "prices", "bits", "shut", "ways", "row", "best", "room", "here", "one"] : List Str)[10]? = some ("room" : Str) := rfl
  have v10 : visB (defScope (top 21)) "room" = true := by decide +kernel
  have s10 : Sto X (defScope (top 21)) "room" := sto_c h.fn (by decide +kernel)
  have n11 : (["net", "stand", "barred", "lies", "prices", "bits", "shut", "ways", "row", "best", "room", "here", "one"] : List Str)[11]? = some ("here" : Str) := rfl
  have v11 : visB (defScope (top 21)) "here" = true := by decide +kernel
  have s11 : Sto X (defScope (top 21)) "here" := sto_c h.fn (by decide +kernel)
  have n12 : (["net", "stand", "barred", "lies", "prices", "bits", "shut", "ways", "row", "best", "room", "here", "one"] : List Str)[12]? = some ("one" : Str) := rfl
  unfold b_p_best_of
  exact (cs_cons (c1_set C.toCf0 5 n5 s5 (ce_x (cx_call C.toCf0 c_p_bits_of (by decide +kernel) (fun _ _ => .nil) (ca_cons (ce_var C.toCf0 0 n0 (by decide +kernel)) ca_nil)))) (cs_cons (c1_set C.toCf0 6 n6 s6 (ce_x (cx_call C.toCf0 c_p_some_of (by decide +kernel) (fun _ _ => .nil) (ca_cons (ce_var C.toCf0 2 n2 (by decide +kernel)) ca_nil)))) (cs_cons (c1_if (ct_w (cw_and (ct_cmp (ce_gt (ce_len C.toCf0 (by decide +kernel) hb_len (ca_cons (ce_var C.toCf0 1 n1 (by decide +kernel)) ca_nil)) (ce_ixG C.toCf0 ht_MOST (by decide +kernel) rfl (ce_var C.toCf0 3 n3 (by decide +kernel))))) (cw_and1 (ct_cmp (ce_ne C.toCf0 (ce_x (cx_call C.toCf0 c_p_useful_bits (by decide +kernel) (fun _ _ => .nil) (ca_cons (ce_var C.toCf0 5 n5 (by decide +kernel)) (ca_cons (ce_x (cx_call C.toCf0 c_p_makes_of (by decide +kernel) (fun _ _ => .nil) (ca_cons (ce_var C.toCf0 1 n1 (by decide +kernel)) ca_nil))) (ca_cons (ce_var C.toCf0 6 n6 (by decide +kernel)) ca_nil))))) (ce_ofN (cn_lst ca_nil))))))) (cs_cons (c1_raise C hX m_TooGreat (by decide +kernel) (by decide +kernel) (ca_cons (ce_len C.toCf0 (by decide +kernel) hb_len (ca_cons (ce_var C.toCf0 1 n1 (by decide +kernel)) ca_nil)) ca_nil)) cs_nil) cs_nil) (cs_cons (c1_set C.toCf0 7 n7 s7 (ce_xK (cx_callM C.toCf0 [false, true, false, false] c_p_all_ways (by decide +kernel) (fun _ _ => .nil) (ca_cons (ce_var C.toCf0 5 n5 (by decide +kernel)) (ca_cons (ce_frz (ce_var C.toCf0 1 n1 (by decide +kernel))) (ca_cons (ce_var C.toCf0 6 n6 (by decide +kernel)) (ca_cons (ce_var C.toCf0 3 n3 (by decide +kernel)) ca_nil))))))) (cs_cons (c1_set C.toCf0 8 n8 s8 (ce_x (cx_call C.toCf0 c_p_priced (by decide +kernel) (fun _ _ => .nil) (ca_cons (ce_var C.toCf0 0 n0 (by decide +kernel)) (ca_cons (ce_var C.toCf0 4 n4 (by decide +kernel)) ca_nil))))) (cs_cons (c1_setX C.toCf0 9 n9 s9 (cx_c (cc_dic0 .n))) (cs_cons (c1_for C [10, 11] (ci_seq (ce_ofN (cn_sortD C (by decide +kernel) hb_sorted (ca_cons (ce_ofN (cn_comp C (CompU.mk (own := [("one", 12)]) (ci_keyN (ce_frzK (ce_var C.toCf0 7 n7 (by decide +kernel)))) (by decide +kernel) (fun _ _ _ _ _ => (cg_name (Cf.blk C).toCf0 12 n12 (sto_l (by decide +kernel)))) (fun _ _ _ _ _ => cts_nil) (fun _ _ _ _ _ => (ce_frz (ce_tup (ca_cons (ce_x (cx_call (Cf.blk C).toCf0 c_p_room_in.blk (by decide +kernel) (fun _ _ => .nil) (ca_cons (ce_var (Cf.blk C).toCf0 12 n12 (by decide +kernel)) (ca_cons (ce_var (Cf.blk C).toCf0 3 n3 (by decide +kernel)) ca_nil)))) (ca_cons (ce_frz (ce_var (Cf.blk C).toCf0 12 n12 (by decide +kernel))) ca_nil))))) (by decide) (fun _ => rfl)))) ca_nil)))) (cg_tup2 C (cg_name C.toCf0 10 n10 s10) (cg_name C.toCf0 11 n11 s11)) (cs_cons (c1_putN C.toCf0 9 n9 v9 (ce_x (cx_callC C.toCf0 1 c_p_best_way (by decide +kernel) (fun _ _ => .nil) (ca_cons (ce_ixN C.toCf0 (ce_var C.toCf0 7 n7 (by decide +kernel)) (ce_var C.toCf0 11 n11 (by decide +kernel))) (ca_cons (ce_var C.toCf0 9 n9 (by decide +kernel)) (ca_cons (ce_var C.toCf0 8 n8 (by decide +kernel)) ca_nil))))) (ce_var C.toCf0 11 n11 (by decide +kernel))) cs_nil)) (cs_cons (c1_retO C.toCf0 9 n9 (by decide +kernel)) cs_nil))))))))
theorem ok_p_best_of {P : Program} {w : World} {K : PySem.W.Frag} {mg : Str → Option Value} {base : Heap} (E : Env K mg) : Gv P w K mg base (5 + 1) "best_of" [] (spU K mg u_p_best_of) := by
  obtain ⟨f, fd, F, hmg⟩ := E.d_p_best_of
  exact Gv.of F hmg (fo_p_best_of E F) (F.bindsN fun _ _ _ _ _ _ us hl => match us, hl with | [_, _, _, _, _], _ => rfl) .nil
theorem sc_p_number_of : FnScope ["net", "stand", "barred", "lies", "prices"] ["net", "stand", "barred", "lies", "prices"] (defScope (top 22)) := ⟨rfl, rfl, rfl, by decide +kernel, rfl, by decide +kernel, by decide +kernel⟩
theorem fo_p_number_of {P : Program} {w : World} {K : PySem.W.Frag} {mg : Str → Option Value} {base : Heap} (E : Env K mg) {f : Addr} {fd : FuncData} (F : FunD K "number_of" "number_of" (defArgs (top 22)) (defBody (top 22)) (defScope (top 22)) [V.non, V.int 0, V.non] [] f fd) : FnOk P w K mg base (L2.CX P w) (6 + 1) f fd ["net", "stand", "barred", "lies", "prices"] (spU K mg u_p_number_of) := by
  refine fn_u (N := ["net", "stand", "barred", "lies", "prices"]) (ps := ["net", "stand", "barred", "lies", "prices"]) (k := 6) F sc_p_number_of (b := b_p_number_of) (by decide) fun X W h => ?_
  have C := h.cf
  have c_p_best_of := (ok_p_best_of (P := P) (w := w) (base := base) E).u h (by omega)
  have n0 : (["net", "stand", "barred", "lies", "prices"] : List Str)[0]? = some ("net" : Str) := rfl
  have v0 : visB (defScope (top 22)) "net" = true := by decide +kernel
  have s0 : Sto X (defScope (top 22)) "net" := sto_c h.fn (by decide +kernel)
  have n1 : (["net", "stand", "barred", "lies", "prices"] : List Str)[1]? = some ("stand" : Str) := rfl
  have v1 : visB (defScope (top 22)) "stand" = true := by decide +kernel
  have s1 : Sto X (defScope (top 22)) "stand" := sto_c h.fn (by decide +kernel)
  have n2 : (["net", "stand", "barred", "lies", "prices"] : List Str)[2]? = some ("barred" : Str) := rfl
  have v2 : visB (defScope (top 22)) "barred" = true := by decide +kernel
  have s2 : Sto X (defScope (top 22)) "barred" := sto_c h.fn (by decide +kernel)
  have n3 : (["net", "stand", "barred", "lies", "prices"] : List Str)[3]? = some ("lies" : Str) := rfl
  have v3 : visB (defScope (top 22)) "lies" = true := by decide +kernel
  have s3 : Sto X (defScope (top 22)) "lies" := sto_c h.fn (by decide +kernel)
  have n4 : (["net", "stand", "barred", "lies", "prices"] : List Str)[4]? = some ("prices" : Str) := rfl
  have v4 : visB (defScope (top 22)) "prices" = true := by decide +kernel
  have s4 : Sto X (defScope (top 22)) "prices" := sto_c h.fn (by decide +kernel)
  unfold b_p_number_of
  exact (cs_cons (c1_ret (ce_ixB C.toCf0 (ce_ixN C.toCf0 (ce_xK (cx_callM C.toCf0 [false, true, false, false, false] c_p_best_of (by decide +kernel) (fun _ _ => .nil) (ca_cons (ce_var C.toCf0 0 n0 (by decide +kernel)) (ca_cons (ce_frz (ce_var C.toCf0 1 n1 (by decide +kernel))) (ca_cons (ce_var C.toCf0 2 n2 (by decide +kernel)) (ca_cons (ce_var C.toCf0 3 n3 (by decide +kernel)) (ca_cons (ce_var C.toCf0 4 n4 (by decide +kernel)) ca_nil))))))) (ce_var C.toCf0 1 n1 (by decide +kernel))) ce_int)) cs_nil)
theorem ok_p_number_of {P : Program} {w : World} {K : PySem.W.Frag} {mg : Str → Option Value} {base : Heap} (E : Env K mg) : Gv P w K mg base (6 + 1) "number_of" [] (spU K mg u_p_number_of) := by
  obtain ⟨f, fd, F, hmg⟩ := E.d_p_number_of
  obtain ⟨ds, hv, hb⟩ := F.binds1 (ps := ["net", "stand", "barred", "lies", "prices"]) 5 3 (by simp) rfl (fun T kV doc pm an cdv ct us its h1 h2 => match us, its, h1, h2 with | [_, _, _, _, _], [_, _, _], _, _ => ⟨_, rfl, rfl⟩)
  exact Gv.of F hmg (fo_p_number_of E F) hb hv
def b_qlesser : DS := (bSeq (bSetX 3 (xC (nL (dLst dA0)))) (bSeq (bFor [4, 5, 6] (gT2 (gN 4) (gN 5)) (iSeq (dVar 1)) (bSeq (bSet 6 (dAdd (dVar 5) (eX (xCallC u_qtake 0 [] (dAc (dVar 0) (dAc (dI kSub (dAdd (dVar 2) (dC (.int 1))) (dVar 5)) dA0)))))) (bSeq (bIf (dTor (dTst (dCmp (kI fun i j => decide (j < i)) (eX (xCallC u_qtake 0 [] (dAc (dVar 0) (dAc (dC (.int 3)) dA0)))) (dC (.int 0)))) (dTand (dTst (dCmp kEq (dVar 3) (dOfN (dLst dA0)))) (dTst (dCmp kEq (dVar 4) (dIxB (dIxB (dVar 1) (dNeg (dC (.int 1)))) (dC (.int 0))))))) (bSeq (bExpr (dLm 3 qAppend (dAc (dFrz (dTup (dAc (dFrz (dVar 4)) (dAc (dFrz (dVar 6)) dA0)))) dA0))) bNil) bNil) bNil))) (bSeq (bRet (dB kTuple (dAc (dVar 3) dA0))) bNil)))
def u_qlesser : List Ar → R (Rs × List Sl) := runB 7 3 b_qlesser
theorem sc_qlesser : FnScope ["_law_feed_here", "_law_stand_here", "_law_lies", "_law_found", "_law_make", "_law_many", "_law_more"] ["_law_feed_here", "_law_stand_here", "_law_lies"] (defScope (top 34)) := ⟨rfl, rfl, rfl, by decide +kernel, rfl, by decide +kernel, by decide +kernel⟩
theorem fo_qlesser {P : Program} {w : World} {K : PySem.W.Frag} {mg : Str → Option Value} {base : Heap} (E : Env K mg) {f : Addr} {fd : FuncData} (F : FunD K "_law_lesser" "_law_lesser" (defArgs (top 34)) (defBody (top 34)) (defScope (top 34)) [] [] f fd) : FnOk P w K mg base (L2.CX P w) (1 + 1) f fd ["_law_feed_here", "_law_stand_here", "_law_lies"] (spU K mg u_qlesser) := by
  refine fn_u (N := ["_law_feed_here", "_law_stand_here", "_law_lies", "_law_found", "_law_make", "_law_many", "_law_more"]) (ps := ["_law_feed_here", "_law_stand_here", "_law_lies"]) (k := 1) F sc_qlesser (b := b_qlesser) (by decide) fun X W h => ?_
  have C := h.cf
  have hb_tuple : X.mg "tuple" = none := by rw [h.mg]; exact E.b_tuple
  have c_qtake := (ok_qtake (P := P) (w := w) (base := base) E).u h (by omega)
  have n0 : (["_law_feed_here", "_law_stand_here", "_law_lies", "_law_found", "_law_make", "_law_many", "_law_more"] : List Str)[0]? = some ("_law_feed_here" : Str) := rfl
  have v0 : visB (defScope (top 34)) "_law_feed_here" = true := by decide +kernel
  have s0 : Sto X (defScope (top 34)) "_law_feed_here" := sto_c h.fn (by decide +kernel)
  have n1 : (["_law_feed_here", "_law_stand_here", "_law_lies", "_law_found", "_law_make", "_law_many", "_law_more"] : List Str)[1]? = some ("_law_stand_here" : Str) := rfl
  have v1 : visB (defScope (top 34)) "_law_stand_here" = true := by decide +kernel
  have s1 : Sto X (defScope (top 34)) "_law_stand_here" := sto_c h.fn (by decide +kernel)
  have n2 : (["_law_feed_here", "_law_stand_here", "_law_lies", "_law_found", "_law_make", "_law_many", "_law_more"] : List Str)[2]? = some ("_law_lies" : Str) := rfl
  have v2 : visB (defScope (top 34)) "_law_lies" = true := by decide +kernel
  have s2 : Sto X (defScope (top 34)) "_law_lies" := sto_c h.fn (by decide +kernel)
  have n3 : (["_law_feed_here", "_law_stand_here", "_law_lies", "_law_found", "_law_make", "_law_many", "_law_more"] : List Str)[3]? = some ("_law_found" : Str) := rfl
  have v3 : visB (defScope (top 34)) "_law_found" = true := by decide +kernel
  have s3 : Sto X (defScope (top 34)) "_law_found" := sto_c h.fn (by decide +kernel)
  have n4 : (["_law_feed_here", "_law_stand_here", "_law_lies", "_law_found", "_law_make", "_law_many", "_law_more"] : List Str)[4]? = some ("_law_make" : Str) := rfl
  have v4 : visB (defScope (top 34)) "_law_make" = true := by decide +kernel
  have s4 : Sto X (defScope (top 34)) "_law_make" := sto_c h.fn (by decide +kernel)
  have n5 : (["_law_feed_here", "_law_stand_here", "_law_lies", "_law_found", "_law_make", "_law_many", "_law_more"] : List Str)[5]? = some ("_law_many" : Str) := rfl
  have v5 : visB (defScope (top 34)) "_law_many" = true := by decide +kernel
  have s5 : Sto X (defScope (top 34)) "_law_many" := sto_c h.fn (by decide +kernel)
  have n6 : (["_law_feed_here", "_law_stand_here", "_law_lies", "_law_found", "_law_make", "_law_many", "_law_more"] : List Str)[6]? = some ("_law_more" : Str) := rfl
  have v6 : visB (defScope (top 34)) "_law_more" = true := by decide +kernel
  have s6 : Sto X (defScope (top 34)) "_law_more" := sto_c h.fn (by decide +kernel)
  unfold b_qlesser
  exact (cs_cons (c1_setX C.toCf0 3 n3 s3 (cx_c (cc_l (cn_lst ca_nil)))) (cs_cons (c1_for C [4, 5, 6] (ci_seq (ce_var C.toCf0 1 n1 (by decide +kernel))) (cg_tup2 C (cg_name C.toCf0 4 n4 s4) (cg_name C.toCf0 5 n5 s5)) (cs_cons (c1_set C.toCf0 6 n6 s6 (ce_add (ce_var C.toCf0 5 n5 (by decide +kernel)) (ce_x (cx_callC C.toCf0 0 c_qtake (by decide +kernel) (fun _ _ => .nil) (ca_cons (ce_var C.toCf0 0 n0 (by decide +kernel)) (ca_cons (ce_sub (ce_add (ce_var C.toCf0 2 n2 (by decide +kernel)) ce_int) (ce_var C.toCf0 5 n5 (by decide +kernel))) ca_nil)))))) (cs_cons (c1_if (ct_w (cw_or (ct_cmp (ce_gt (ce_x (cx_callC C.toCf0 0 c_qtake (by decide +kernel) (fun _ _ => .nil) (ca_cons (ce_var C.toCf0 0 n0 (by decide +kernel)) (ca_cons ce_int ca_nil)))) ce_int)) (cw_or1 (ct_w (cw_and (ct_cmp (ce_eq C.toCf0 (ce_var C.toCf0 3 n3 (by decide +kernel)) (ce_ofN (cn_lst ca_nil)))) (cw_and1 (ct_cmp (ce_eq C.toCf0 (ce_var C.toCf0 4 n4 (by decide +kernel)) (ce_ixB C.toCf0 (ce_ixB C.toCf0 (ce_var C.toCf0 1 n1 (by decide +kernel)) (ce_neg ce_int)) ce_int))))))))) (cs_cons (c1_expr (ce_append C.toCf0 3 n3 (by decide +kernel) (ce_tup (ca_cons (ce_frz (ce_var C.toCf0 4 n4 (by decide +kernel))) (ca_cons (ce_frz (ce_var C.toCf0 6 n6 (by decide +kernel))) ca_nil))))) cs_nil) cs_nil) cs_nil))) (cs_cons (c1_ret (ce_tuple C.toCf0 (by decide +kernel) hb_tuple (ca_cons (ce_var C.toCf0 3 n3 (by decide +kernel)) ca_nil))) cs_nil)))
theorem ok_qlesser {P : Program} {w : World} {K : PySem.W.Frag} {mg : Str → Option Value} {base : Heap} (E : Env K mg) : Gv P w K mg base (1 + 1) "_law_lesser" [] (spU K mg u_qlesser) := by
  obtain ⟨f, fd, F, hmg⟩ := E.d_qlesser
  exact Gv.of F hmg (fo_qlesser E F) (F.bindsN fun _ _ _ _ _ _ us hl => match us, hl with | [_, _, _], _ => rfl) .nil
def b_qdearer : DS := (bSeq (bIf (dTst (dCmp kIs (dVar 2) (dC .none))) (bSeq (bSet 2 (dOfN (nComp [3] (gN 3) (iSeq (dVar 1)) tYes (dC (.int 1))))) bNil) bNil) (bSeq (bRetC (nL (nComp [4] (gN 4) (iSeq (dVar 2)) tYes (dFrz (dAdd (dVar 4) (dI kMul (dIxB (dOfN (dLst (dAc (dC (.int 0)) (dAc (dC (.int 1)) (dAc (dI kSub (dI kPow (dC (.int 10)) (dC (.int 30))) (dVar 4)) dA0))))) (eX (xCallC u_qtake 0 [] (dAc (dVar 0) (dAc (dC (.int 3)) dA0))))) (dB kInt (dAc (dCmp (kI fun i j => decide (i < j)) (dVar 4) (dI kPow (dC (.int 10)) (dC (.int 30)))) dA0)))))))) bNil))
def u_qdearer : List Ar → R (Rs × List Sl) := runB 5 3 b_qdearer
theorem sc_qdearer : FnScope ["_law_feed_here", "_law_net_here", "_law_prices_here", "_law_make", "_law_price"] ["_law_feed_here", "_law_net_here", "_law_prices_here"] (defScope (top 35)) := ⟨rfl, rfl, rfl, by decide +kernel, rfl, by decide +kernel, by decide +kernel⟩
theorem fo_qdearer {P : Program} {w : World} {K : PySem.W.Frag} {mg : Str → Option Value} {base : Heap} (E : Env K mg) {f : Addr} {fd : FuncData} (F : FunD K "_law_dearer" "_law_dearer" (defArgs (top 35)) (defBody (top 35)) (defScope (top 35)) [] [] f fd) : FnOk P w K mg base (L2.CX P w) (1 + 1) f fd ["_law_feed_here", "_law_net_here", "_law_prices_here"] (spU K mg u_qdearer) := by
  refine fn_u (N := ["_law_feed_here", "_law_net_here", "_law_prices_here", "_law_make", "_law_price"]) (ps := ["_law_feed_here", "_law_net_here", "_law_prices_here"]) (k := 1) F sc_qdearer (b := b_qdearer) (by decide) fun X W h => ?_
  have C := h.cf
  have hb_int : X.mg "int" = none := by rw [h.mg]; exact E.b_int
  have c_qtake := (ok_qtake (P := P) (w := w) (base := base) E).u h (by omega)
  have n0 : (["_law_feed_here", "_law_net_here", "_law_prices_here", "_law_make", "_law_price"] : List Str)[0]? = some ("_law_feed_here" : Str) := rfl
  have v0 : visB (defScope (top 35)) "_law_feed_here" = true := by decide +kernel
  have s0 : Sto X (defScope (top 35)) "_law_feed_here" := sto_c h.fn (by decide +kernel)
  have n1 : (["_law_feed_here", "_law_net_here", "_law_prices_here", "_law_make", "_law_price"] : List Str)[1]? = some ("_law_net_here" : Str) := rfl
  have v1 : visB (defScope (top 35)) "_law_net_here" = true := by decide +kernel
  have s1 : Sto X (defScope (top 35)) "_law_net_here" := sto_c h.fn (by decide +kernel)
  have n2 : (["_law_feed_here", "_law_net_here", "_law_prices_here", "_law_make", "_law_price"] : List Str)[2]? = some ("_law_prices_here" : Str) := rfl
  have v2 : visB (defScope (top 35)) "_law_prices_here" = true := by decide +kernel
  have s2 : Sto X (defScope (top 35)) "_law_prices_here" := sto_c h.fn (by decide +kernel)
  have n3 : (["_law_feed_here", "_law_net_here", "_law_prices_here", "_law_make", "_law_price"] : List Str)[3]? = some ("_law_make" : Str) := rfl
  have n4 : (["_law_feed_here", "_law_net_here", "_law_prices_here", "_law_make", "_law_price"] : List Str)[4]? = some ("_law_price" : Str) := rfl
  unfold b_qdearer
  exact (cs_cons (c1_if (ct_cmp (ce_is (ce_var C.toCf0 2 n2 (by decide +kernel)) ce_none)) (cs_cons (c1_lcD C rfl 2 n2 (by decide +kernel) (CompU.mk (own := [("_law_make", 3)]) (ci_seq (ce_var C.toCf0 1 n1 (by decide +kernel))) (by decide +kernel) (fun _ _ _ _ _ => (cg_name (Cf.blk C).toCf0 3 n3 (sto_l (by decide +kernel)))) (fun _ _ _ _ _ => cts_nil) (fun _ _ _ _ _ => ce_int) (by decide) (fun _ => rfl))) cs_nil) cs_nil) (cs_cons (c1_retC (cc_l (cn_comp C (CompU.mk (own := [("_law_price", 4)]) (ci_seq (ce_var C.toCf0 2 n2 (by decide +kernel))) (by decide +kernel) (fun _ _ _ _ _ => (cg_name (Cf.blk C).toCf0 4 n4 (sto_l (by decide +kernel)))) (fun _ _ _ _ _ => cts_nil) (fun _ _ _ _ _ => (ce_frz (ce_add (ce_var (Cf.blk C).toCf0 4 n4 (by decide +kernel)) (ce_mul (ce_ixB (Cf.blk C).toCf0 (ce_ofN (cn_lst (ca_cons ce_int (ca_cons ce_int (ca_cons (ce_sub (ce_pow ce_int ce_int) (ce_var (Cf.blk C).toCf0 4 n4 (by decide +kernel))) ca_nil))))) (ce_x (cx_callC (Cf.blk C).toCf0 0 c_qtake.blk (by decide +kernel) (fun _ _ => .nil) (ca_cons (ce_var (Cf.blk C).toCf0 0 n0 (by decide +kernel)) (ca_cons ce_int ca_nil))))) (ce_intc (Cf.blk C).toCf0 (by decide +kernel) hb_int (ca_cons (ce_lt (ce_var (Cf.blk C).toCf0 4 n4 (by decide +kernel)) (ce_pow ce_int ce_int)) ca_nil)))))) (by decide) (fun _ => rfl))))) cs_nil))
theorem ok_qdearer {P : Program} {w : World} {K : PySem.W.Frag} {mg : Str → Option Value} {base : Heap} (E : Env K mg) : Gv P w K mg base (1 + 1) "_law_dearer" [] (spU K mg u_qdearer) := by
  obtain ⟨f, fd, F, hmg⟩ := E.d_qdearer
  exact Gv.of F hmg (fo_qdearer E F) (F.bindsN fun _ _ _ _ _ _ us hl => match us, hl with | [_, _, _], _ => rfl) .nil
theorem ok_p_number_of_d1 {P : Program} {w : World} {K : PySem.W.Frag} {mg : Str → Option Value} {base : Heap} (E : Env K mg) : Gv P w K mg base (6 + 1) "number_of" [V.non] (spU K mg u_p_number_of) := by
  obtain ⟨f, fd, F, hmg⟩ := E.d_p_number_of
  obtain ⟨ds, hv, hb⟩ := F.binds1 (ps := ["net", "stand", "barred", "lies", "prices"]) 4 2 (by simp) rfl (fun T kV doc pm an cdv ct us its h1 h2 => match us, its, h1, h2 with | [_, _, _, _], [_, _, _], _, _ => ⟨_, rfl, rfl⟩)
  exact Gv.of F hmg (fo_p_number_of E F) hb hv
def b_qclasses : DS := (bSeq (bSetX 3 (xC (nDic0 .n))) (bSeq (bFor [4, 5, 6] (gT2 (gN 4) (gN 5)) (iSeq (dVar 2)) (bSeq (bSet 6 (dB kTuple (dAc (dOfN (nComp [7] (gN 7) (iRange1 (dB kLen (dAc (dVar 0) dA0))) (dTst (dCmp kNinB (dVar 7) (dVar 1))) (dFrz (dCmp kInB (dVar 4) (dIxB (dVar 0) (dVar 7)))))) dA0))) (bSeq (bPutN 3 (dC (.bool true)) (dVar 6)) bNil))) (bSeq (bRet (dB kLenN (dAc (dFrzK (dVar 3)) dA0))) bNil)))
def u_qclasses : List Ar → R (Rs × List Sl) := runB 8 3 b_qclasses
theorem sc_qclasses : FnScope ["_law_olds", "_law_barred_here", "_law_stand_here", "_law_found", "_law_make", "_law_many", "_law_told", "_law_tried"] ["_law_olds", "_law_barred_here", "_law_stand_here"] (defScope (top 36)) := ⟨rfl, rfl, rfl, by decide +kernel, rfl, by decide +kernel, by decide +kernel⟩
theorem fo_qclasses {P : Program} {w : World} {K : PySem.W.Frag} {mg : Str → Option Value} {base : Heap} (E : Env K mg) {f : Addr} {fd : FuncData} (F : FunD K "_law_classes" "_law_classes" (defArgs (top 36)) (defBody (top 36)) (defScope (top 36)) [] [] f fd) : FnOk P w K mg base (L2.CX P w) (0 + 1) f fd ["_law_olds", "_law_barred_here", "_law_stand_here"] (spU K mg u_qclasses) := by
  refine fn_u (N := ["_law_olds", "_law_barred_here", "_law_stand_here", "_law_found", "_law_make", "_law_many", "_law_told", "_law_tried"]) (ps := ["_law_olds", "_law_barred_here", "_law_stand_here"]) (k := 0) F sc_qclasses (b := b_qclasses) (by decide) fun X W h => ?_
  have C := h.cf
  have hb_tuple : X.mg "tuple" = none := by rw [h.mg]; exact E.b_tuple
  have hb_range : X.mg "range" = none := by rw [h.mg]; exact E.b_range
  have hb_len : X.mg "len" = none := by rw [h.mg]; exact E.b_len
  have n0 : (["_law_olds", "_law_barred_here", "_law_stand_here", "_law_found", "_law_make", "_law_many", "_law_told", "_law_tried"] : List Str)[0]? = some ("_law_olds" : Str) := rfl
  have v0 : visB (defScope (top 36)) "_law_olds" = true := by decide +kernel
  have s0 : Sto X (defScope (top 36)) "_law_olds" := sto_c h.fn (by decide +kernel)
  have n1 : (["_law_olds", "_law_barred_here", "_law_stand_here", "_law_found", "_law_make", "_law_many", "_law_told", "_law_tried"] : List Str)[1]? = some ("_law_barred_here" : Str) := rfl
  have v1 : visB (defScope (top 36)) "_law_barred_here" = true := by decide +kernel
  have s1 : Sto X (defScope (top 36)) "_law_barred_here" := sto_c h.fn (by decide +kernel)
  have n2 : (["_law_olds", "_law_barred_here", "_law_stand_here", "_law_found", "_law_make", "_law_many", "_law_told", "_law_tried"] : List Str)[2]? = some ("_law_stand_here" : Str) := rfl
  have v2 : visB (defScope (top 36)) "_law_stand_here" = true := by decide +kernel
  have s2 : Sto X (defScope (top 36)) "_law_stand_here" := sto_c h.fn (by decide +kernel)
  have n3 : (["_law_olds", "_law_barred_here", "_law_stand_here", "_law_found", "_law_make", "_law_many", "_law_told", "_law_tried"] : List Str)[3]? = some ("_law_found" : Str) := rfl
  have v3 : visB (defScope (top 36)) "_law_found" = true := by decide +kernel
  have s3 : Sto X (defScope (top 36)) "_law_found" := sto_c h.fn (by decide +kernel)
  have n4 : (["_law_olds", "_law_barred_here", "_law_stand_here", "_law_found", "_law_make", "_law_many", "_law_told", "_law_tried"] : List Str)[4]? = some ("_law_make" : Str) := rfl
  have v4 : visB (defScope (top 36)) "_law_make" = true := by decide +kernel
  have s4 : Sto X (defScope (top 36)) "_law_make" := sto_c h.fn (by decide +kernel)
  have n5 : (["_law_olds", "_law_barred_here", "_law_stand_here", "_law_found", "_law_make", "_law_many", "_law_told", "_law_tried"] : List Str)[5]? = some ("_law_many" : Str) := rfl
  have v5 : visB (defScope (top 36)) "_law_many" = true := by decide +kernel
  have s5 : Sto X (defScope (top 36)) "_law_many" := sto_c h.fn (by decide +kernel)
  have n6 : (["_law_olds", "_law_barred_here", "_law_stand_here", "_law_found", "_law_make", "_law_many", "_law_told", "_law_tried"] : List Str)[6]? = some ("_law_told" : Str) := rfl
  have v6 : visB (defScope (top 36)) "_law_told" = true := by decide +kernel
  have s6 : Sto X (defScope (top 36)) "_law_told" := sto_c h.fn (by decide +kernel)
  have n7 : (["_law_olds", "_law_barred_here", "_law_stand_here", "_law_found", "_law_make", "_law_many", "_law_told", "_law_tried"] : List Str)[7]? = some ("_law_tried" : Str) := rfl
  unfold b_qclasses
  exact (cs_cons (c1_setX C.toCf0 3 n3 s3 (cx_c (cc_dic0 .n))) (cs_cons (c1_for C [4, 5, 6] (ci_seq (ce_var C.toCf0 2 n2 (by decide +kernel))) (cg_tup2 C (cg_name C.toCf0 4 n4 s4) (cg_name C.toCf0 5 n5 s5)) (cs_cons (c1_set C.toCf0 6 n6 s6 (ce_tuple C.toCf0 (by decide +kernel) hb_tuple (ca_cons (ce_ofN (cn_comp C (CompU.mk (own := [("_law_tried", 7)]) (ci_range1 C.toCf0 (by decide +kernel) hb_range (ce_len C.toCf0 (by decide +kernel) hb_len (ca_cons (ce_var C.toCf0 0 n0 (by decide +kernel)) ca_nil))) (by decide +kernel) (fun _ _ _ _ _ => (cg_name (Cf.blk C).toCf0 7 n7 (sto_l (by decide +kernel)))) (fun _ _ _ _ _ => (cts_one (ct_cmp (ce_notinB (Cf.blk C).toCf0 (ce_var (Cf.blk C).toCf0 7 n7 (by decide +kernel)) (ce_var (Cf.blk C).toCf0 1 n1 (by decide +kernel)))))) (fun _ _ _ _ _ => (ce_frz (ce_inB (Cf.blk C).toCf0 (ce_var (Cf.blk C).toCf0 4 n4 (by decide +kernel)) (ce_ixB (Cf.blk C).toCf0 (ce_var (Cf.blk C).toCf0 0 n0 (by decide +kernel)) (ce_var (Cf.blk C).toCf0 7 n7 (by decide +kernel)))))) (by decide) (fun _ => rfl)))) ca_nil))) (cs_cons (c1_putN C.toCf0 3 n3 v3 ce_bool (ce_var C.toCf0 6 n6 (by decide +kernel))) cs_nil))) (cs_cons (c1_ret (ce_lenN C.toCf0 (by decide +kernel) hb_len (ca_cons (ce_frzK (ce_var C.toCf0 3 n3 (by decide +kernel))) ca_nil))) cs_nil)))
theorem ok_qclasses {P : Program} {w : World} {K : PySem.W.Frag} {mg : Str → Option Value} {base : Heap} (E : Env K mg) : Gv P w K mg base (0 + 1) "_law_classes" [] (spU K mg u_qclasses) := by
  obtain ⟨f, fd, F, hmg⟩ := E.d_qclasses
  exact Gv.of F hmg (fo_qclasses E F) (F.bindsN fun _ _ _ _ _ _ us hl => match us, hl with | [_, _, _], _ => rfl) .nil
theorem sc_qfrom : FnScope ["_law_net_here", "_law_found", "_law_make", "_law_elders", "_law_own", "_law_elder", "_law_old"] ["_law_net_here"] (defScope (top 28)) := ⟨rfl, rfl, rfl, by decide +kernel, rfl, by decide +kernel, by decide +kernel⟩
theorem fo_qfrom {P : Program} {w : World} {K : PySem.W.Frag} {mg : Str → Option Value} {base : Heap} (E : Env K mg) {f : Addr} {fd : FuncData} (F : FunD K "_law_from" "_law_from" (defArgs (top 28)) (defBody (top 28)) (defScope (top 28)) [] [] f fd) : FnOk P w K mg base (L2.CX P w) (0 + 1) f fd ["_law_net_here"] (spU K mg u_qfrom) := by
  refine fn_u (N := ["_law_net_here", "_law_found", "_law_make", "_law_elders", "_law_own", "_law_elder", "_law_old"]) (ps := ["_law_net_here"]) (k := 0) F sc_qfrom (b := b_qfrom) (by decide) fun X W h => ?_
  have C := h.cf
  have hb_enumerate : X.mg "enumerate" = none := by rw [h.mg]; exact E.b_enumerate
  have n0 : (["_law_net_here", "_law_found", "_law_make", "_law_elders", "_law_own", "_law_elder", "_law_old"] : List Str)[0]? = some ("_law_net_here" : Str) := rfl
  have v0 : visB (defScope (top 28)) "_law_net_here" = true := by decide +kernel
  have s0 : Sto X (defScope (top 28)) "_law_net_here" := sto_c h.fn (by decide +kernel)
  have n1 : (["_law_net_here", "_law_found", "_law_make", "_law_elders", "_law_own", "_law_elder", "_law_old"] : List Str)[1]? = some ("_law_found" : Str) := rfl
  have v1 : visB (defScope (top 28)) "_law_found" = true := by decide +kernel
  have s1 : Sto X (defScope (top 28)) "_law_found" := sto_c h.fn (by decide +kernel)
  have n2 : (["_law_net_here", "_law_found", "_law_make", "_law_elders", "_law_own", "_law_elder", "_law_old"] : List Str)[2]? = some ("_law_make" : Str) := rfl
  have v2 : visB (defScope (top 28)) "_law_make" = true := by decide +kernel
  have s2 : Sto X (defScope (top 28)) "_law_make" := sto_c h.fn (by decide +kernel)
  have n3 : (["_law_net_here", "_law_found", "_law_make", "_law_elders", "_law_own", "_law_elder", "_law_old"] : List Str)[3]? = some ("_law_elders" : Str) := rfl
  have v3 : visB (defScope (top 28)) "_law_elders" = true := by decide +kernel
  have s3 : Sto X (defScope (top 28)) "_law_elders" := sto_c h.fn (by decide +kernel)
  have n4 : (["_law_net_here", "_law_found", "_law_make", "_law_elders", "_law_own", "_law_elder", "_law_old"] : List Str)[4]? = some ("_law_own" : Str) := rfl
  have v4 : visB (defScope (top 28)) "_law_own" = true := by decide +kernel
  have s4 : Sto X (defScope (top 28)) "_law_own" := sto_c h.fn (by decide +kernel)
  have n5 : (["_law_net_here", "_law_found", "_law_make", "_law_elders", "_law_own", "_law_elder", "_law_old"] : List Str)[5]? = some ("_law_elder" : Str) := rfl
  have v5 : visB (defScope (top 28)) "_law_elder" = true := by decide +kernel
  have s5 : Sto X (defScope (top 28)) "_law_elder" := sto_c h.fn (by decide +kernel)
  have n6 : (["_law_net_here", "_law_found", "_law_make", "_law_elders", "_law_own", "_law_elder", "_law_old"] : List Str)[6]? = some ("_law_old" : Str) := rfl
  have v6 : visB (defScope (top 28)) "_law_old" = true := by decide +kernel
  have s6 : Sto X (defScope (top 28)) "_law_old" := sto_c h.fn (by decide +kernel)
  unfold b_qfrom
  exact (cs_cons (c1_setX C.toCf0 1 n1 s1 (cx_c (cc_l (cn_lst ca_nil)))) (cs_cons (c1_for C [2, 3, 4, 5, 6] (ci_enum C.toCf0 (by decide +kernel) hb_enumerate (ce_var C.toCf0 0 n0 (by decide +kernel))) (cg_tup2 C (cg_name C.toCf0 2 n2 s2) (cg_name C.toCf0 3 n3 s3)) (cs_cons (c1_setX C.toCf0 4 n4 s4 (cx_c (cc_dic1 C.toCf0 2 n2 (by decide +kernel) pe_bl (fun _ _ => (.bl _))))) (cs_cons (c1_for C [5, 6] (ci_seq (ce_var C.toCf0 3 n3 (by decide +kernel))) (cg_name C.toCf0 5 n5 s5) (cs_cons (c1_for C [6] (ci_keyD (ce_ixB C.toCf0 (ce_var C.toCf0 1 n1 (by decide +kernel)) (ce_var C.toCf0 5 n5 (by decide +kernel)))) (cg_name C.toCf0 6 n6 s6) (cs_cons (c1_put C.toCf0 4 n4 v4 ce_bool (ce_var C.toCf0 6 n6 (by decide +kernel))) cs_nil)) cs_nil)) (cs_cons (c1_expr (ce_appendK C.toCf0 1 n1 (by decide +kernel) (ce_var C.toCf0 4 n4 (by decide +kernel)))) cs_nil)))) (cs_cons (c1_retO C.toCf0 1 n1 (by decide +kernel)) cs_nil)))
theorem ok_qfrom {P : Program} {w : World} {K : PySem.W.Frag} {mg : Str → Option Value} {base : Heap} (E : Env K mg) : Gv P w K mg base (0 + 1) "_law_from" [] (spU K mg u_qfrom) := by
  obtain ⟨f, fd, F, hmg⟩ := E.d_qfrom
  exact Gv.of F hmg (fo_qfrom E F) (F.bindsN fun _ _ _ _ _ _ us hl => match us, hl with | [_], _ => rfl) .nil
def b_qright : DS := (bSeq (bSet 6 (eX (xCallM u_p_number_of [false, true, false, false, false] [] (dAc (dVar 1) (dAc (dFrz (dVar 2)) (dAc (dVar 3) (dAc (dVar 4) (dAc (dVar 5) dA0)))))))) (bSeq (bIf (dTst (dCmp (kI fun i j => decide (j < i)) (eX (xCallM u_p_number_of [false, true, false, false, false] [] (dAc (dVar 1) (dAc (eX (xCallCM u_qlesser 0 [true, false] [] (dAc (dVar 0) (dAc (dFrz (dVar 2)) (dAc (dVar 4) dA0))))) (dAc (dVar 3) (dAc (dVar 4) (dAc (dVar 5) dA0))))))) (dVar 6))) (bSeq (bRet (dC (.bool false))) bNil) bNil) (bSeq (bIf (dTst (dCmp (kI fun i j => decide (i < j)) (eX (xCallM u_p_number_of [false, true, false, false, false] [] (dAc (dVar 1) (dAc (dFrz (dVar 2)) (dAc (dVar 3) (dAc (dVar 4) (dAc (eX (xCallC u_qdearer 0 [] (dAc (dVar 0) (dAc (dVar 1) (dAc (dVar 5) dA0))))) dA0))))))) (dVar 6))) (bSeq (bRet (dC (.bool false))) bNil) bNil) (bSeq (bSet 7 (eX (xCallM u_p_number_of [false, true, false, false] [PyData.none] (dAc (dVar 1) (dAc (dFrz (dVar 2)) (dAc (dVar 3) (dAc (dVar 4) dA0))))))) (bSeq (bSet 8 (eX (xCallM u_qclasses [false, false, true] [] (dAc (eX (xCall u_qfrom [] (dAc (dVar 1) dA0))) (dAc (dVar 3) (dAc (dFrz (dVar 2)) dA0)))))) (bSeq (bIf (dTor (dTst (dCmp kNe (dCmp kEq (dVar 6) (dC (.int 0))) (dCmp kEq (dVar 8) (dC (.int 1))))) (dTor (dTst (dCmp kNe (dCmp kEq (dVar 7) (dC (.int 0))) (dCmp kEq (dVar 8) (dC (.int 1))))) (dTst (dCmp (kI fun i j => decide (j < i)) (dVar 8) (dI kShl (dC (.int 1)) (dVar 7)))))) (bSeq (bRet (dC (.bool false))) bNil) bNil) (bSeq (bSet 9 (dAdd (dC (.int 1)) (eX (xCallC u_qtake 0 [] (dAc (dVar 0) (dAc (dI kPow (dC (.int 10)) (dC (.int 15))) dA0)))))) (bSeq (bRet (dCmp kEq (eX (xCallM u_p_number_of [false, true, false, false, false] [] (dAc (dVar 1) (dAc (dFrz (dVar 2)) (dAc (dVar 3) (dAc (dVar 4) (dAc (dOfN (nComp [10] (gN 10) (iSeq (dVar 1)) tYes (dFrz (dVar 9)))) dA0))))))) (dI kMul (dVar 9) (dVar 7)))) bNil))))))))
def u_qright : List Ar → R (Rs × List Sl) := runB 11 6 b_qright
theorem sc_qright : FnScope ["_law_feed_here", "_law_net_here", "_law_stand_here", "_law_barred_here", "_law_lies", "_law_prices_here", "_law_number", "_law_plain", "_law_unlike", "_law_price", "_law_make"] ["_law_feed_here", "_law_net_here", "_law_stand_here", "_law_barred_here", "_law_lies", "_law_prices_here"] (defScope (top 37)) := ⟨rfl, rfl, rfl, by decide +kernel, rfl, by decide +kernel, by decide +kernel⟩
theorem fo_qright {P : Program} {w : World} {K : PySem.W.Frag} {mg : Str → Option Value} {base : Heap} (E : Env K mg) {f : Addr} {fd : FuncData} (F : FunD K "_law_right" "_law_right" (defArgs (top 37)) (defBody (top 37)) (defScope (top 37)) [] [] f fd) : FnOk P w K mg base (L2.CX P w) (7 + 1) f fd ["_law_feed_here", "_law_net_here", "_law_stand_here", "_law_barred_here", "_law_lies", "_law_prices_here"] (spU K mg u_qright) := by
  refine fn_u (N := ["_law_feed_here", "_law_net_here", "_law_stand_here", "_law_barred_here", "_law_lies", "_law_prices_here", "_law_number", "_law_plain", "_law_unlike", "_law_price", "_law_make"]) (ps := ["_law_feed_here", "_law_net_here", "_law_stand_here", "_law_barred_here", "_law_lies", "_law_prices_here"]) (k := 7) F sc_qright (b := b_qright) (by decide) fun X W h => ?_
  have C := h.cf
  have c_p_number_of := (ok_p_number_of (P := P) (w := w) (base := base) E).u h (by omega)
  have c_qlesser := (ok_qlesser (P := P) (w := w) (base := base) E).u h (by omega)
  have c_qdearer := (ok_qdearer (P := P) (w := w) (base := base) E).u h (by omega)
  have c_p_number_of_d1 := (ok_p_number_of_d1 (P := P) (w := w) (base := base) E).u h (by omega)
  have c_qclasses := (ok_qclasses (P := P) (w := w) (base := base) E).u h (by omega)
  have c_qfrom := (ok_qfrom (P := P) (w := w) (base := base) E).u h (by omega)
  have c_qtake := (ok_qtake (P := P) (w := w) (base := base) E).u h (by omega)
  have n0 : (["_law_feed_here", "_law_net_here", "_law_stand_here", "_law_barred_here", "_law_lies", "_law_prices_here", "_law_number", "_law_plain", "_law_unlike", "_law_price", "_law_make"] : List Str)[0]? = some ("_law_feed_here" : Str) := rfl
  have v0 : visB (defScope (top 37)) "_law_feed_here" = true := by decide +kernel
  have s0 : Sto X (defScope (top 37)) "_law_feed_here" := sto_c h.fn (by decide +kernel)
  have n1 : (["_law_feed_here", "_law_net_here", "_law_stand_here", "_law_barred_here", "_law_lies", "_law_prices_here", "_law_number", "_law_plain", "_law_unlike", "_law_price", "_law_make"] : List Str)[1]? = some ("_law_net_here" : Str) := rfl
  have v1 : visB (defScope (top 37)) "_law_net_here" = true := by decide +kernel
  have s1 : Sto X (defScope (top 37)) "_law_net_here" := sto_c h.fn (by decide +kernel)
  have n2 : (["_law_feed_here", "_law_net_here", "_law_stand_here", "_law_barred_here", "_law_lies", "_law_prices_here", "_law_number", "_law_plain", "_law_unlike", "_law_price", "_law_make"] : List Str)[2]? = some ("_law_stand_here" : Str) := rfl
  have v2 : visB (defScope (top 37)) "_law_stand_here" = true := by decide +kernel
  have s2 : Sto X (defScope (top 37)) "_law_stand_here" := sto_c h.fn (by decide +kernel)
  have n3 : (["_law_feed_here", "_law_net_here", "_law_stand_here", "_law_barred_here", "_law_lies", "_law_prices_here", "_law_number", "_law_plain", "_law_unlike", "_law_price", "_law_make"] : List Str)[3]? = some ("_law_barred_here" : Str) := rfl
  have v3 : visB (defScope (top 37)) "_law_barred_here" = true := by decide +kernel
  have s3 : Sto X (defScope (top 37)) "_law_barred_here" := sto_c h.fn (by decide +kernel)
  have n4 : (["_law_feed_here", "_law_net_here", "_law_stand_here", "_law_barred_here", "_law_lies", "_law_prices_here", "_law_number", "_law_plain", "_law_unlike", "_law_price", "_law_make"] : List Str)[4]? = some ("_law_lies" : Str) := rfl
  have v4 : visB (defScope (top 37)) "_law_lies" = true := by decide +kernel
  have s4 : Sto X (defScope (top 37)) "_law_lies" := sto_c h.fn (by decide +kernel)
  have n5 : (["_law_feed_here", "_law_net_here", "_law_stand_here", "_law_barred_here", "_law_lies", "_law_prices_here", "_law_number", "_law_plain", "_law_unlike", "_law_price", "_law_make"] : List Str)[5]? = some ("_law_prices_here" : Str) := rfl
  have v5 : visB (defScope (top 37)) "_law_prices_here" = true := by decide +kernel
  have s5 : Sto X (defScope (top 37)) "_law_prices_here" := sto_c h.fn (by decide +kernel)
  have n6 : (["_law_feed_here", "_law_net_here", "_law_stand_here", "_law_barred_here", "_law_lies", "_law_prices_here", "_law_number", "_law_plain", "_law_unlike", "_law_price", "_law_make"] : List Str)[6]? = some ("_law_number" : Str) := rfl
  have v6 : visB (defScope (top 37)) "_law_number" = true := by decide +kernel
  have s6 : Sto X (defScope (top 37)) "_law_number" := sto_c h.fn (by decide +kernel)
  have n7 : (["_law_feed_here", "_law_net_here", "_law_stand_here", "_law_barred_here", "_law_lies", "_law_prices_here", "_law_number", "_law_plain", "_law_unlike", "_law_price", "_law_make"] : List Str)[7]? = some ("_law_plain" : Str) := rfl
  have v7 : visB (defScope (top 37)) "_law_plain" = true := by decide +kernel
  have s7 : Sto X (defScope (top 37)) "_law_plain" := sto_c h.fn (by decide +kernel)
  have n8 : (["_law_feed_here", "_law_net_here", "_law_stand_here", "_law_barred_here", "_law_lies", "_law_prices_here", "_law_number", "_law_plain", "_law_unlike", "_law_price", "_law_make"] : List Str)[8]? = some ("_law_unlike" : Str) := rfl
  have v8 : visB (defScope (top 37)) "_law_unlike" = true := by decide +kernel
  have s8 : Sto X (defScope (top 37)) "_law_unlike" := sto_c h.fn (by decide +kernel)
  have n9 : (["_law_feed_here", "_law_net_here", "_law_stand_here", "_law_barred_here", "_law_lies", "_law_prices_here", "_law_number", "_law_plain", "_law_unlike", "_law_price", "_law_make"] : List Str)[9]? = some ("_law_price" : Str) := rfl
  have v9 : visB (defScope (top 37)) "_law_price" = true := by decide +kernel
  have s9 : Sto X (defScope (top 37)) "_law_price" := sto_c h.fn (by decide +kernel)
  have n10 : (["_law_feed_here", "_law_net_here", "_law_stand_here", "_law_barred_here", "_law_lies", "_law_prices_here", "_law_number", "_law_plain", "_law_unlike", "_law_price", "_law_make"] : List Str)[10]? = some ("_law_make" : Str) := rfl
  unfold b_qright
  exact (cs_cons (c1_set C.toCf0 6 n6 s6 (ce_x (cx_callM C.toCf0 [false, true, false, false, false] c_p_number_of (by decide +kernel) (fun _ _ => .nil) (ca_cons (ce_var C.toCf0 1 n1 (by decide +kernel)) (ca_cons (ce_frz (ce_var C.toCf0 2 n2 (by decide +kernel))) (ca_cons (ce_var C.toCf0 3 n3 (by decide +kernel)) (ca_cons (ce_var C.toCf0 4 n4 (by decide +kernel)) (ca_cons (ce_var C.toCf0 5 n5 (by decide +kernel)) ca_nil)))))))) (cs_cons (c1_if (ct_cmp (ce_gt (ce_x (cx_callM C.toCf0 [false, true, false, false, false] c_p_number_of (by decide +kernel) (fun _ _ => .nil) (ca_cons (ce_var C.toCf0 1 n1 (by decide +kernel)) (ca_cons (ce_x (cx_callCM C.toCf0 0 [true, false] c_qlesser (by decide +kernel) (fun _ _ => .nil) (ca_cons (ce_var C.toCf0 0 n0 (by decide +kernel)) (ca_cons (ce_frz (ce_var C.toCf0 2 n2 (by decide +kernel))) (ca_cons (ce_var C.toCf0 4 n4 (by decide +kernel)) ca_nil))))) (ca_cons (ce_var C.toCf0 3 n3 (by decide +kernel)) (ca_cons (ce_var C.toCf0 4 n4 (by decide +kernel)) (ca_cons (ce_var C.toCf0 5 n5 (by decide +kernel)) ca_nil))))))) (ce_var C.toCf0 6 n6 (by decide +kernel)))) (cs_cons (c1_ret ce_bool) cs_nil) cs_nil) (cs_cons (c1_if (ct_cmp (ce_lt (ce_x (cx_callM C.toCf0 [false, true, false, false, false] c_p_number_of (by decide +kernel) (fun _ _ => .nil) (ca_cons (ce_var C.toCf0 1 n1 (by decide +kernel)) (ca_cons (ce_frz (ce_var C.toCf0 2 n2 (by decide +kernel))) (ca_cons (ce_var C.toCf0 3 n3 (by decide +kernel)) (ca_cons (ce_var C.toCf0 4 n4 (by decide +kernel)) (ca_cons (ce_x (cx_callC C.toCf0 0 c_qdearer (by decide +kernel) (fun _ _ => .nil) (ca_cons (ce_var C.toCf0 0 n0 (by decide +kernel)) (ca_cons (ce_var C.toCf0 1 n1 (by decide +kernel)) (ca_cons (ce_var C.toCf0 5 n5 (by decide +kernel)) ca_nil))))) ca_nil))))))) (ce_var C.toCf0 6 n6 (by decide +kernel)))) (cs_cons (c1_ret ce_bool) cs_nil) cs_nil) (cs_cons (c1_set C.toCf0 7 n7 s7 (ce_x (cx_callM C.toCf0 [false, true, false, false] c_p_number_of_d1 (by decide +kernel) (fun _ _ => (.cons .non .nil)) (ca_cons (ce_var C.toCf0 1 n1 (by decide +kernel)) (ca_cons (ce_frz (ce_var C.toCf0 2 n2 (by decide +kernel))) (ca_cons (ce_var C.toCf0 3 n3 (by decide +kernel)) (ca_cons (ce_var C.toCf0 4 n4 (by decide +kernel)) ca_nil))))))) (cs_cons (c1_set C.toCf0 8 n8 s8 (ce_x (cx_callM C.toCf0 [false, false, true] c_qclasses (by decide +kernel) (fun _ _ => .nil) (ca_cons (ce_x (cx_call C.toCf0 c_qfrom (by decide +kernel) (fun _ _ => .nil) (ca_cons (ce_var C.toCf0 1 n1 (by decide +kernel)) ca_nil))) (ca_cons (ce_var C.toCf0 3 n3 (by decide +kernel)) (ca_cons (ce_frz (ce_var C.toCf0 2 n2 (by decide +kernel))) ca_nil)))))) (cs_cons (c1_if (ct_w (cw_or (ct_cmp (ce_ne C.toCf0 (ce_eq C.toCf0 (ce_var C.toCf0 6 n6 (by decide +kernel)) ce_int) (ce_eq C.toCf0 (ce_var C.toCf0 8 n8 (by decide +kernel)) ce_int))) (cw_or (ct_cmp (ce_ne C.toCf0 (ce_eq C.toCf0 (ce_var C.toCf0 7 n7 (by decide +kernel)) ce_int) (ce_eq C.toCf0 (ce_var C.toCf0 8 n8 (by decide +kernel)) ce_int))) (cw_or1 (ct_cmp (ce_gt (ce_var C.toCf0 8 n8 (by decide +kernel)) (ce_shl ce_int (ce_var C.toCf0 7 n7 (by decide +kernel))))))))) (cs_cons (c1_ret ce_bool) cs_nil) cs_nil) (cs_cons (c1_set C.toCf0 9 n9 s9 (ce_add ce_int (ce_x (cx_callC C.toCf0 0 c_qtake (by decide +kernel) (fun _ _ => .nil) (ca_cons (ce_var C.toCf0 0 n0 (by decide +kernel)) (ca_cons (ce_pow ce_int ce_int) ca_nil)))))) (cs_cons (c1_ret (ce_eq C.toCf0 (ce_x (cx_callM C.toCf0 [false, true, false, false, false] c_p_number_of (by decide +kernel) (fun _ _ => .nil) (ca_cons (ce_var C.toCf0 1 n1 (by decide +kernel)) (ca_cons (ce_frz (ce_var C.toCf0 2 n2 (by decide +kernel))) (ca_cons (ce_var C.toCf0 3 n3 (by decide +kernel)) (ca_cons (ce_var C.toCf0 4 n4 (by decide +kernel)) (ca_cons (ce_ofN (cn_comp C (CompU.mk (own := [("_law_make", 10)]) (ci_seq (ce_var C.toCf0 1 n1 (by decide +kernel))) (by decide +kernel) (fun _ _ _ _ _ => (cg_name (Cf.blk C).toCf0 10 n10 (sto_l (by decide +kernel)))) (fun _ _ _ _ _ => cts_nil) (fun _ _ _ _ _ => (ce_frz (ce_var (Cf.blk C).toCf0 9 n9 (by decide +kernel)))) (by decide) (fun _ => rfl)))) ca_nil))))))) (ce_mul (ce_var C.toCf0 9 n9 (by decide +kernel)) (ce_var C.toCf0 7 n7 (by decide +kernel))))) cs_nil))))))))
theorem ok_qright {P : Program} {w : World} {K : PySem.W.Frag} {mg : Str → Option Value} {base : Heap} (E : Env K mg) : Gv P w K mg base (7 + 1) "_law_right" [] (spU K mg u_qright) := by
  obtain ⟨f, fd, F, hmg⟩ := E.d_qright
  exact Gv.of F hmg (fo_qright E F) (F.bindsN fun _ _ _ _ _ _ us hl => match us, hl with | [_, _, _, _, _, _], _ => rfl) .nil
def b_p_law : DS := (bSeq (bFor [1, 2, 3, 4, 5, 6, 7] (gN 1) (iRange1 (dB kMax2 (dAc (dC (.int 1)) (dAc (dB kMin2 (dAc (dB kLen (dAc (dVar 0) dA0)) (dAc (dC (.int 3)) dA0))) dA0)))) (bSeq (bSetX 2 (xCall u_qfeed [] (dAc (dVar 0) (dAc (dVar 1) dA0)))) (bSeq (bSetG (gTn [(gN 3), (gN 4), (gN 5), (gN 6), (gN 7)]) (eX (xCallC u_qdrawn 0 [] (dAc (dVar 2) dA0)))) (bSeq (bIf (dTnot (dTst (eX (xCallCM u_qright 0 [false, true, true, false, true] [] (dAc (dVar 2) (dAc (dVar 3) (dAc (dFrz (dVar 4)) (dAc (dFrz (dVar 5)) (dAc (dVar 6) (dAc (dFrz (dVar 7)) dA0)))))))))) (bSeq (bRet (dC (.bool false))) bNil) bNil) bNil)))) (bSeq (bRet (dC (.bool true))) bNil))
def u_p_law : List Ar → R (Rs × List Sl) := runB 8 1 b_p_law
theorem sc_p_law : FnScope ["_law_script", "_law_k", "_law_feed_here", "_law_net_here", "_law_stand_here", "_law_barred_here", "_law_lies", "_law_prices_here"] ["_law_script"] (defScope (top 38)) := ⟨rfl, rfl, rfl, by decide +kernel, rfl, by decide +kernel, by decide +kernel⟩
theorem fo_p_law {P : Program} {w : World} {K : PySem.W.Frag} {mg : Str → Option Value} {base : Heap} (E : Env K mg) {f : Addr} {fd : FuncData} (F : FunD K "law" "law" (defArgs (top 38)) (defBody (top 38)) (defScope (top 38)) [] [] f fd) : FnOk P w K mg base (L2.CX P w) (8 + 1) f fd ["_law_script"] (spU K mg u_p_law) := by
  refine fn_u (N := ["_law_script", "_law_k", "_law_feed_here", "_law_net_here", "_law_stand_here", "_law_barred_here", "_law_lies", "_law_prices_here"]) (ps := ["_law_script"]) (k := 8) F sc_p_law (b := b_p_law) (by decide) fun X W h => ?_
  have C := h.cf
  have hb_range : X.mg "range" = none := by rw [h.mg]; exact E.b_range
  have hb_max : X.mg "max" = none := by rw [h.mg]; exact E.b_max
  have hb_min : X.mg "min" = none := by rw [h.mg]; exact E.b_min
  have hb_len : X.mg "len" = none := by rw [h.mg]; exact E.b_len
  have c_qfeed := (ok_qfeed (P := P) (w := w) (base := base) E).u h (by omega)
  have c_qdrawn := (ok_qdrawn (P := P) (w := w) (base := base) E).u h (by omega)
  have c_qright := (ok_qright (P := P) (w := w) (base := base) E).u h (by omega)
  have n0 : (["_law_script", "_law_k", "_law_feed_here", "_law_net_here", "_law_stand_here", "_law_barred_here", "_law_lies", "_law_prices_here"] : List Str)[0]? = some ("_law_script" : Str) := rfl
  have v0 : visB (defScope (top 38)) "_law_script" = true := by decide +kernel
  have s0 : Sto X (defScope (top 38)) "_law_script" := sto_c h.fn (by decide +kernel)
  have n1 : (["_law_script", "_law_k", "_law_feed_here", "_law_net_here", "_law_stand_here", "_law_barred_here", "_law_lies", "_law_prices_here"] : List Str)[1]? = some ("_law_k" : Str) := rfl
  have v1 : visB (defScope (top 38)) "_law_k" = true := by decide +kernel
  have s1 : Sto X (defScope (top 38)) "_law_k" := sto_c h.fn (by decide +kernel)
  have n2 : (["_law_script", "_law_k", "_law_feed_here", "_law_net_here", "_law_stand_here", "_law_barred_here", "_law_lies", "_law_prices_here"] : List Str)[2]? = some ("_law_feed_here" : Str) := rfl
  have v2 : visB (defScope (top 38)) "_law_feed_here" = true := by decide +kernel
  have s2 : Sto X (defScope (top 38)) "_law_feed_here" := sto_c h.fn (by decide +kernel)
  have n3 : (["_law_script", "_law_k", "_law_feed_here", "_law_net_here", "_law_stand_here", "_law_barred_here", "_law_lies", "_law_prices_here"] : List Str)[3]? = some ("_law_net_here" : Str) := rfl
  have v3 : visB (defScope (top 38)) "_law_net_here" = true := by decide +kernel
  have s3 : Sto X (defScope (top 38)) "_law_net_here" := sto_c h.fn (by decide +kernel)
  have n4 : (["_law_script", "_law_k", "_law_feed_here", "_law_net_here", "_law_stand_here", "_law_barred_here", "_law_lies", "_law_prices_here"] : List Str)[4]? = some ("_law_stand_here" : Str) := rfl
  have v4 : visB (defScope (top 38)) "_law_stand_here" = true := by decide +kernel
  have s4 : Sto X (defScope (top 38)) "_law_stand_here" := sto_c h.fn (by decide +kernel)
  have n5 : (["_law_script", "_law_k", "_law_feed_here", "_law_net_here", "_law_stand_here", "_law_barred_here", "_law_lies", "_law_prices_here"] : List Str)[5]? = some ("_law_barred_here" : Str) := rfl
  have v5 : visB (defScope (top 38)) "_law_barred_here" = true := by decide +kernel
  have s5 : Sto X (defScope (top 38)) "_law_barred_here" := sto_c h.fn (by decide +kernel)
  have n6 : (["_law_script", "_law_k", "_law_feed_here", "_law_net_here", "_law_stand_here", "_law_barred_here", "_law_lies", "_law_prices_here"] : List Str)[6]? = some ("_law_lies" : Str) := rfl
  have v6 : visB (defScope (top 38)) "_law_lies" = true := by decide +kernel
  have s6 : Sto X (defScope (top 38)) "_law_lies" := sto_c h.fn (by decide +kernel)
  have n7 : (["_law_script", "_law_k", "_law_feed_here", "_law_net_here", "_law_stand_here", "_law_barred_here", "_law_lies", "_law_prices_here"] : List Str)[7]? = some ("_law_prices_here" : Str) := rfl
  have v7 : visB (defScope (top 38)) "_law_prices_here" = true := by decide +kernel
  have s7 : Sto X (defScope (top 38)) "_law_prices_here" := sto_c h.fn (by decide +kernel)
  unfold b_p_law
  exact (cs_cons (c1_for C [1, 2, 3, 4, 5, 6, 7] (ci_range1 C.toCf0 (by decide +kernel) hb_range (ce_max2 C (by decide +kernel) hb_max (ca_cons ce_int (ca_cons (ce_min2 C (by decide +kernel) hb_min (ca_cons (ce_len C.toCf0 (by decide +kernel) hb_len (ca_cons (ce_var C.toCf0 0 n0 (by decide +kernel)) ca_nil)) (ca_cons ce_int ca_nil))) ca_nil)))) (cg_name C.toCf0 1 n1 s1) (cs_cons (c1_setX C.toCf0 2 n2 s2 (cx_call C.toCf0 c_qfeed (by decide +kernel) (fun _ _ => .nil) (ca_cons (ce_var C.toCf0 0 n0 (by decide +kernel)) (ca_cons (ce_var C.toCf0 1 n1 (by decide +kernel)) ca_nil)))) (cs_cons (c1_setG (cg_tupn C (cgs_cons (cg_name C.toCf0 3 n3 s3) (cgs_cons (cg_name C.toCf0 4 n4 s4) (cgs_cons (cg_name C.toCf0 5 n5 s5) (cgs_cons (cg_name C.toCf0 6 n6 s6) (cgs_cons (cg_name C.toCf0 7 n7 s7) cgs_nil)))))) (ce_x (cx_callC C.toCf0 0 c_qdrawn (by decide +kernel) (fun _ _ => .nil) (ca_cons (ce_var C.toCf0 2 n2 (by decide +kernel)) ca_nil)))) (cs_cons (c1_if (ct_not (ct_of (ce_x (cx_callCM C.toCf0 0 [false, true, true, false, true] c_qright (by decide +kernel) (fun _ _ => .nil) (ca_cons (ce_var C.toCf0 2 n2 (by decide +kernel)) (ca_cons (ce_var C.toCf0 3 n3 (by decide +kernel)) (ca_cons (ce_frz (ce_var C.toCf0 4 n4 (by decide +kernel))) (ca_cons (ce_frz (ce_var C.toCf0 5 n5 (by decide +kernel))) (ca_cons (ce_var C.toCf0 6 n6 (by decide +kernel)) (ca_cons (ce_frz (ce_var C.toCf0 7 n7 (by decide +kernel))) ca_nil)))))))))) (cs_cons (c1_ret ce_bool) cs_nil) cs_nil) cs_nil)))) (cs_cons (c1_ret ce_bool) cs_nil))
end PDW
set_option linter.all false
set_option maxRecDepth 100000
set_option maxHeartbeats 0
set_option autoImplicit false
namespace PDW
open PySem L2 PD
theorem msk_iff {net : List (List Int)} {bs : List Int} (hB : BitsOk net bs) {st : List (Int × Int)} (hm : ∀ z ∈ st, 0 ≤ z.1 ∧ z.1 < (net.length : Int)) {k : Nat} {v mk : Int} (hv : bs[k]? = some v) (hmk : Msk net.length mk (fun j => (j : Int) ∈ st.map (·.1))) :
    (0 < Builtin.bitAnd v mk ↔ ∃ z ∈ st, inb v z.1 = true) ∧ (Builtin.bitAnd v mk < mk ↔ ∃ z ∈ st, inb v z.1 = false) := by
  have hb := hB.2 k v hv
  have hab := msk_and hb hmk
  have hnn := hab.nn
  have h1 : (∃ z ∈ st, inb v z.1 = true) ↔ ∃ j : Nat, Anc net k j ∧ (j : Int) ∈ st.map (·.1) := by
    constructor
    · rintro ⟨z, hz, e⟩
      obtain ⟨z0, z1⟩ := hm z hz
      refine ⟨z.1.toNat, (isIn_msk hb z0).mp (of_decide_eq_true e), ?_⟩
      rw [Int.toNat_of_nonneg z0]
      exact List.mem_map.mpr ⟨z, hz, rfl⟩
    · rintro ⟨j, hj, hjm⟩
      obtain ⟨z, hz, e⟩ := List.mem_map.mp hjm
      refine ⟨z, hz, decide_eq_true ((isIn_msk hb (hm z hz).1).mpr ?_)⟩
      rw [e, Int.toNat_natCast]; exact hj
  have h2 : (∃ z ∈ st, inb v z.1 = false) ↔ ∃ j : Nat, ¬ Anc net k j ∧ (j : Int) ∈ st.map (·.1) := by
    constructor
    · rintro ⟨z, hz, e⟩
      obtain ⟨z0, z1⟩ := hm z hz
      refine ⟨z.1.toNat, fun hA => ?_, ?_⟩
      · have := decide_eq_true ((isIn_msk hb z0).mpr hA)
        rw [inb] at e
        rw [this] at e
        cases e
      · rw [Int.toNat_of_nonneg z0]
        exact List.mem_map.mpr ⟨z, hz, rfl⟩
    · rintro ⟨j, hj, hjm⟩
      obtain ⟨z, hz, e⟩ := List.mem_map.mp hjm
      refine ⟨z, hz, decide_eq_false fun q => hj ?_⟩
      have := (isIn_msk hb (hm z hz).1).mp q
      rwa [e, Int.toNat_natCast] at this
  refine ⟨?_, ?_⟩
  · rw [h1, show (0 < Builtin.bitAnd v mk ↔ Builtin.bitAnd v mk ≠ 0) by omega, Ne, msk_none hab]
    constructor
    · intro h
      refine Classical.byContradiction fun hn => h fun j hj => hn ⟨j, hj⟩
    · rintro ⟨j, hj⟩ h
      exact h j hj
  · rw [h2]
    have hle : Builtin.bitAnd v mk ≤ mk := by
      have e1 := hb.nn
      have e2 := hmk.nn
      rw [band_pos e1 e2]
      have := @Nat.and_le_right v.toNat mk.toNat
      omega
    rw [show (Builtin.bitAnd v mk < mk ↔ Builtin.bitAnd v mk ≠ mk) by omega]
    constructor
    · intro h
      refine Classical.byContradiction fun hn => h (msk_ext hab (hmk.iff fun j => ⟨fun q => ⟨Classical.byContradiction fun w => hn ⟨j, w, q⟩, q⟩, fun q => q.2⟩))
    · rintro ⟨j, hj, hjm⟩ h
      have e := (hmk.bit j).mpr hjm
      rw [← h] at e
      exact hj ((hab.bit j).mp e).1
theorem usefulBits_q (net : List (List Int)) (hn : net.length ≤ 1000) (bs : List Int) (hB : BitsOk net bs) (st : List (Int × Int)) (hl : st.length ≤ 1000) (hm : ∀ z ∈ st, 0 ≤ z.1 ∧ z.1 < (net.length : Int)) (shut : List Int) :
    u_p_useful_bits [.d (dL bs), .d (dT (st.map (·.1))), .d (dL shut)] = .val (.c (.lst ((usf net.length bs st shut).map PyData.int)), [.un, .un, .un]) := by
  have hbl := hB.1
  obtain ⟨mk, em, hmk⟩ := mask_q net.length hn true (st.map (·.1)) (fun x hx => by
    obtain ⟨z, hz, rfl⟩ := List.mem_map.mp hx
    exact hm z hz)
  have em : u_p_mask_of [.d (dT (st.map (·.1)))] = .val (.d (.int mk), [.un]) := em
  refine ok_eq (ok_run rfl ?_)
  unfold b_p_useful_bits
  apply w_set
  · exact e_x (x_call (a_cons (e_var rfl) a_nil) rfl em) rfl
  and_intros
  have hlen : ((bs.map PyData.int).length : Int) = (net.length : Int) := by rw [List.length_map, hbl]
  have hf : (rng 0 (net.length : Nat)).filter (fun k => !decide (k ∈ shut) && (decide (0 < Builtin.bitAnd (bs[k.toNat]?.getD 0) mk) && decide (Builtin.bitAnd (bs[k.toNat]?.getD 0) mk < mk))) = usf net.length bs st shut := by
    unfold usf
    apply List.filter_congr
    intro k hk
    have hk := rng_mem.mp hk
    obtain ⟨i, rfl⟩ : ∃ i : Nat, k = (i : Int) := ⟨k.toNat, by omega⟩
    obtain ⟨v, hv⟩ : ∃ b, bs[i]? = some b := ⟨_, List.getElem?_eq_getElem (by omega)⟩
    obtain ⟨a1, a2⟩ := msk_iff hB hm hv hmk
    rw [Int.toNat_natCast, hv, Option.getD_some]
    congr 2
    · rw [decide_eq_decide, a1, cmc_pos hv]
    · rw [decide_eq_decide, a2, cmc_lt hv]
  apply w_retC
  · refine c_l (n_filt (enc := PyData.int) (rng 0 (net.length : Nat)) (fun k => !decide (k ∈ shut) && (decide (0 < Builtin.bitAnd (bs[k.toNat]?.getD 0) mk) && decide (Builtin.bitAnd (bs[k.toNat]?.getD 0) mk < mk))) (by rw [← hlen]; exact i_range1 (e_B (a_cons (e_var rfl) a_nil) (k_lenL rfl)) (cRng_of (by decide) (by decide) (by omega) (by omega))) (by rw [rng_len]; omega) rfl fun k hk => ?_)
    have hk := rng_mem.mp hk
    obtain ⟨i, rfl⟩ : ∃ i : Nat, k = (i : Int) := ⟨k.toNat, by omega⟩
    obtain ⟨v, hv⟩ : ∃ b, bs[i]? = some b := ⟨_, List.getElem?_eq_getElem (by omega)⟩
    refine ⟨_, rfl, rfl, ?_, fun _ => e_frzT (e_var rfl) rfl⟩
    rw [Int.toNat_natCast, hv, Option.getD_some]
    exact t_and (t_tst (e_cmp (e_var rfl) (e_var rfl) (k_ninI (i : Nat) shut))) fun _ => t_tst (e_chainBU e_C (e_I (e_ixL (e_var rfl) (e_var rfl) (at_nat (f := PyData.int) hv)) (e_var rfl) k_and) (e_var rfl))
  rw [hf]
  exact ⟨_, _, rfl, rfl, rfl⟩
abbrev Wy := Int × List (Int × Int) × List (Int × Int)
abbrev wyD : Wy → PyData := fun w => .tuple [.int w.1, sD w.2.1, sD w.2.2]
abbrev wyL (ws : List Wy) : PyData := .list (ws.map wyD)
def wyF (n : Nat) (bs shut : List Int) (lies : Int) (st : List (Int × Int)) : List Wy := (usf n bs st shut).map fun k => (k, behF (bs[k.toNat]?.getD 0) "bad" lies st, behF (bs[k.toNat]?.getD 0) "good" lies st)
theorem waysOn_q (net : List (List Int)) (hn : net.length ≤ 1000) (bs : List Int) (hB : BitsOk net bs) (st : List (Int × Int)) (hl : st.length ≤ 1000) (hm : ∀ z ∈ st, 0 ≤ z.1 ∧ z.1 < (net.length : Int)) (shut : List Int) (lies : Int) :
    u_p_ways_on [.d (dL bs), .d (sD st), .d (dL shut), .d (.int lies)] = .val (.c (.lst ((wyF net.length bs shut lies st).map wyD)), [.un, .un, .un, .un]) := by
  have hbl := hB.1
  have hu := usefulBits_q net hn bs hB st hl hm shut
  have e1 := makesOf_q st (by omega)
  refine ok_eq (ok_run rfl ?_)
  unfold b_p_ways_on
  apply w_setX
  · exact x_c (c_l (n_lst a_nil rfl rfl))
  refine w_forL (enc := PyData.int) (usf net.length bs st shut) (S := List Wy) (fun i s => s = ((usf net.length bs st shut).take i).map fun k => (k, behF (bs[k.toNat]?.getD 0) "bad" lies st, behF (bs[k.toNat]?.getD 0) "good" lies st)) (fun s => [.dat false (dL bs), .dat false (sD st), .dat false (dL shut), .dat true (.int lies), .own (.lst (s.map wyD)), .un, .un]) [] (i_seqL (e_x (x_call (a_cons (e_var rfl) (a_cons (e_x (x_call (a_cons (e_var rfl) a_nil) rfl e1) rfl) (a_cons (e_var rfl) a_nil))) rfl hu) rfl)) rfl rfl ?_ ?_
  · rintro i k s hk rfl
    have hmem : k ∈ usf net.length bs st shut := List.mem_of_getElem? hk
    have hk2 := rng_mem.mp (List.mem_filter.mp hmem).1
    obtain ⟨j, rfl⟩ : ∃ j : Nat, k = (j : Int) := ⟨k.toNat, by omega⟩
    obtain ⟨v, hv⟩ : ∃ b, bs[j]? = some b := ⟨_, List.getElem?_eq_getElem (by omega)⟩
    have hb1 := behindBits_q bs j v hv "bad" (by decide +kernel) lies st hl (fun z hz => (hm z hz).1)
    have hb2 := behindBits_q bs j v hv "good" (by decide +kernel) lies st hl (fun z hz => (hm z hz).1)
    refine ⟨_, rfl, ?_⟩
    apply w_set
    · exact e_x (x_call (a_cons (e_var rfl) (a_cons (e_var rfl) (a_cons (e_tup (a_cons (e_frzT (e_var rfl) rfl) (a_cons e_C a_nil)) rfl rfl) (a_cons (e_var rfl) a_nil)))) rfl hb1) rfl
    apply w_expr
    · apply e_ap
      · rfl
      · exact e_frz (e_tup (a_cons (e_frzT (e_var rfl) rfl) (a_cons (e_frz (e_var rfl)) (a_cons (e_x (x_call (a_cons (e_var rfl) (a_cons (e_var rfl) (a_cons (e_tup (a_cons (e_frzT (e_var rfl) rfl) (a_cons e_C a_nil)) rfl rfl) (a_cons (e_var rfl) a_nil)))) rfl hb2) rfl) a_nil))) rfl rfl)
      · rfl
      · refine ltS_map ?_
        have := usf_len net.length bs st shut
        rw [List.length_map, List.length_take]
        omega
    refine w_nil ⟨_, ?_, rfl⟩
    rw [take_step hk, List.map_append, List.map_append]
    congr 1
    rw [List.map_singleton, List.map_singleton, Int.toNat_natCast, hv]
    rfl
  · rintro s rfl
    rw [List.take_length]
    nofun
    exact ⟨_, _, rfl, rfl, rfl⟩
end PDW
set_option linter.all false
set_option maxRecDepth 100000
set_option maxHeartbeats 0
set_option autoImplicit false
namespace PDW
open PySem L2 PD
abbrev Sd := List (Int × Int)
def nx (ws : List Wy) : List Sd := ws.flatMap fun w => [w.2.1, w.2.2]
theorem nx_len (ws : List Wy) : (nx ws).length = 2 * ws.length := by
  unfold nx
  induction ws with
  | nil => rfl
  | cons w r ih => rw [List.flatMap_cons, List.length_append, ih, List.length_cons]; simp; omega
theorem nx_mem {ws : List Wy} {t : Sd} : t ∈ nx ws ↔ ∃ w ∈ ws, t = w.2.1 ∨ t = w.2.2 := by
  unfold nx
  rw [List.mem_flatMap]
  constructor
  · rintro ⟨w, hw, h⟩; exact ⟨w, hw, by simpa using h⟩
  · rintro ⟨w, hw, h⟩; exact ⟨w, hw, by simpa using h⟩
def trv (F : Sd → List Wy) : Nat → List (Sd × List Wy) → List Sd → List (Sd × List Wy)
  | 0, D, _ => D
  | j + 1, D, wl => match wl.getLast? with
    | none => D
    | some h => if h ∈ D.map (·.1) then trv F j D wl.dropLast else trv F j (D ++ [(h, F h)]) (wl.dropLast ++ nx (F h))
theorem trv_nil {F : Sd → List Wy} {j : Nat} {D : List (Sd × List Wy)} : trv F (j + 1) D [] = D := rfl
theorem trv_old {F : Sd → List Wy} {j : Nat} {D : List (Sd × List Wy)} {wl : List Sd} {h : Sd} (hh : h ∈ D.map (·.1)) : trv F (j + 1) D (wl ++ [h]) = trv F j D wl := by
  rw [trv]
  simp only [List.getLast?_concat, List.dropLast_concat]
  rw [if_pos hh]
theorem trv_new {F : Sd → List Wy} {j : Nat} {D : List (Sd × List Wy)} {wl : List Sd} {h : Sd} (hh : h ∉ D.map (·.1)) : trv F (j + 1) D (wl ++ [h]) = trv F j (D ++ [(h, F h)]) (wl ++ nx (F h)) := by
  rw [trv]
  simp only [List.getLast?_concat, List.dropLast_concat]
  rw [if_neg hh]
structure Cls (F : Sd → List Wy) (L : List Sd) (U : Nat) : Prop where
  cl : ∀ s ∈ L, ∀ t ∈ nx (F s), t ∈ L
  up : ∀ s ∈ L, (F s).length ≤ U
structure TrI (F : Sd → List Wy) (L : List Sd) (st : Sd) (D : List (Sd × List Wy)) (wl : List Sd) : Prop where
  wm : ∀ s ∈ wl, s ∈ L
  kl : ∀ s ∈ D.map (·.1), s ∈ L
  nd : (D.map (·.1)).Nodup
  val : ∀ z ∈ D, z.2 = F z.1
  cl : ∀ s ∈ D.map (·.1), ∀ t ∈ nx (F s), t ∈ D.map (·.1) ∨ t ∈ wl
  st : st ∈ D.map (·.1) ∨ st ∈ wl
def mm (L : List Sd) (U : Nat) (D : List (Sd × List Wy)) (wl : List Sd) : Nat := (2 * U + 1) * (L.filter fun s => !decide (s ∈ D.map (·.1))).length + wl.length
theorem TrI.old {F : Sd → List Wy} {L : List Sd} {st : Sd} {D : List (Sd × List Wy)} {wl : List Sd} {h : Sd} (I : TrI F L st D (wl ++ [h])) (hh : h ∈ D.map (·.1)) : TrI F L st D wl where
  wm s hs := I.wm s (List.mem_append.mpr (.inl hs))
  kl := I.kl
  nd := I.nd
  val := I.val
  cl s hs t ht := by
    rcases I.cl s hs t ht with h1 | h1
    · exact .inl h1
    · rcases List.mem_append.mp h1 with h1 | h1
      · exact .inr h1
      · rw [List.mem_singleton.mp h1]; exact .inl hh
  st := by
    rcases I.st with h1 | h1
    · exact .inl h1
    · rcases List.mem_append.mp h1 with h1 | h1
      · exact .inr h1
      · rw [List.mem_singleton.mp h1]; exact .inl hh
theorem TrI.new {F : Sd → List Wy} {L : List Sd} {U : Nat} (C : Cls F L U) {st : Sd} {D : List (Sd × List Wy)} {wl : List Sd} {h : Sd} (I : TrI F L st D (wl ++ [h])) (hh : h ∉ D.map (·.1)) : TrI F L st (D ++ [(h, F h)]) (wl ++ nx (F h)) := by
  have hL : h ∈ L := I.wm h (by simp)
  refine ⟨fun s hs => ?_, fun s hs => ?_, ?_, fun z hz => ?_, fun s hs t ht => ?_, ?_⟩
  · rcases List.mem_append.mp hs with hs | hs
    · exact I.wm s (List.mem_append.mpr (.inl hs))
    · exact C.cl h hL s hs
  · rw [List.map_append] at hs
    rcases List.mem_append.mp hs with hs | hs
    · exact I.kl s hs
    · have : s = h := by simpa using hs
      subst this; exact hL
  · rw [List.map_append, List.nodup_append]
    refine ⟨I.nd, by simp, ?_⟩
    intro a ha b hb e
    have hb : b = h := by simpa using hb
    subst hb
    rw [e] at ha
    exact hh ha
  · rcases List.mem_append.mp hz with hz | hz
    · exact I.val z hz
    · rw [List.mem_singleton.mp hz]
  · rw [List.map_append] at hs ⊢
    rcases List.mem_append.mp hs with hs | hs
    · rcases I.cl s hs t ht with h1 | h1
      · exact .inl (List.mem_append.mpr (.inl h1))
      · rcases List.mem_append.mp h1 with h1 | h1
        · exact .inr (List.mem_append.mpr (.inl h1))
        · rw [List.mem_singleton.mp h1]; exact .inl (by simp)
    · have : s = h := by simpa using hs
      subst this
      exact .inr (List.mem_append.mpr (.inr ht))
  · rw [List.map_append]
    rcases I.st with h1 | h1
    · exact .inl (List.mem_append.mpr (.inl h1))
    · rcases List.mem_append.mp h1 with h1 | h1
      · exact .inr (List.mem_append.mpr (.inl h1))
      · rw [List.mem_singleton.mp h1]; exact .inl (by simp)
theorem filter_lt {α : Type} {p q : α → Bool} {l : List α} (h : ∀ x ∈ l, p x = true → q x = true) {y : α} (hy : y ∈ l) (h1 : q y = true) (h2 : p y = false) : (l.filter p).length < (l.filter q).length := by
  induction l with
  | nil => cases hy
  | cons x r ih =>
    have hx := h x (by simp)
    have mono : (r.filter p).length ≤ (r.filter q).length := by
      clear ih hy
      induction r with
      | nil => exact Nat.le_refl _
      | cons z s ih2 =>
        have := ih2 fun w hw => h w (by rcases List.mem_cons.mp hw with rfl | hw <;> simp [*])
        have hz := h z (by simp)
        rw [List.filter_cons, List.filter_cons]
        cases hp : p z with
        | true => rw [hz hp]; simpa using this
        | false =>
          cases q z with
          | true => simp; omega
          | false => simpa using this
    rw [List.filter_cons, List.filter_cons]
    rcases List.mem_cons.mp hy with rfl | hy
    · rw [h1, h2]; simp; omega
    · have := ih (fun w hw => h w (by simp [hw])) hy
      cases hp : p x with
      | true => rw [hx hp]; simpa using this
      | false =>
        cases q x with
        | true => simp; omega
        | false => simpa using this
theorem mm_old {L : List Sd} {U : Nat} {D : List (Sd × List Wy)} {wl : List Sd} {h : Sd} : mm L U D wl + 1 = mm L U D (wl ++ [h]) := by
  unfold mm; rw [List.length_append]; rfl
theorem mm_new {F : Sd → List Wy} {L : List Sd} {U : Nat} (C : Cls F L U) {D : List (Sd × List Wy)} {wl : List Sd} {h : Sd} (hL : h ∈ L) (hh : h ∉ D.map (·.1)) : mm L U (D ++ [(h, F h)]) (wl ++ nx (F h)) < mm L U D (wl ++ [h]) := by
  have key : (L.filter fun s => !decide (s ∈ (D ++ [(h, F h)]).map (·.1))).length < (L.filter fun s => !decide (s ∈ D.map (·.1))).length := by
    refine filter_lt (fun x _ hx => ?_) hL ?_ ?_
    · simp only [Bool.not_eq_true', decide_eq_false_iff_not, List.map_append, List.mem_append, not_or] at hx ⊢
      exact hx.1
    · simp only [Bool.not_eq_true', decide_eq_false_iff_not]; exact hh
    · simp
  have hu := C.up h hL
  unfold mm
  rw [List.length_append, List.length_append, nx_len]
  generalize (L.filter fun s => !decide (s ∈ (D ++ [(h, F h)]).map (·.1))).length = a at key ⊢
  generalize (L.filter fun s => !decide (s ∈ D.map (·.1))).length = b at key ⊢
  have h1 : (2 * U + 1) * (a + 1) ≤ (2 * U + 1) * b := Nat.mul_le_mul_left _ key
  rw [Nat.mul_succ] at h1
  simp only [List.length_cons, List.length_nil]
  omega
theorem trv_TI {F : Sd → List Wy} {L : List Sd} {U : Nat} (C : Cls F L U) {st : Sd} : ∀ (j : Nat) (D : List (Sd × List Wy)) (wl : List Sd), TrI F L st D wl → mm L U D wl < j → TrI F L st (trv F j D wl) []
  | 0, D, wl, I, h => by omega
  | j + 1, D, wl, I, h => by
    rcases List.eq_nil_or_concat wl with rfl | ⟨w2, x, rfl⟩
    · exact I
    · by_cases hx : x ∈ D.map (·.1)
      · rw [List.concat_eq_append] at I h ⊢
        rw [trv_old hx]
        exact trv_TI C j D w2 (I.old hx) (by have := @mm_old L U D w2 x; omega)
      · rw [List.concat_eq_append] at I h ⊢
        rw [trv_new hx]
        have := mm_new C (D := D) (wl := w2) (I.wm x (by simp)) hx
        exact trv_TI C j _ _ (I.new C hx) (by omega)
theorem TI_start {F : Sd → List Wy} {L : List Sd} {st : Sd} (h : st ∈ L) : TrI F L st [] [st] :=
  ⟨fun s hs => by rw [List.mem_singleton.mp hs]; exact h, fun s hs => (nomatch hs), List.nodup_nil, fun z hz => (nomatch hz), fun s hs => (nomatch hs), .inr (by simp)⟩
theorem mm_start {L : List Sd} {U : Nat} {st : Sd} : mm L U [] [st] ≤ (2 * U + 1) * L.length + 1 := by
  unfold mm
  have := List.length_filter_le (fun s => !decide (s ∈ ([] : List (Sd × List Wy)).map (·.1))) L
  have := Nat.mul_le_mul_left (2 * U + 1) this
  simp only [List.length_cons, List.length_nil]
  omega
def bks (F : Sd → List Wy) (st : Sd) : List (Sd × List Wy) := trv F 1000000 [] [st]
theorem bks_TI {F : Sd → List Wy} {L : List Sd} {U : Nat} (C : Cls F L U) {st : Sd} (h : st ∈ L) (hb : (2 * U + 1) * L.length < 900000) : TrI F L st (bks F st) [] :=
  trv_TI C _ _ _ (TI_start h) (by have := @mm_start L U st; omega)
abbrev bkD : List (Sd × List Wy) → List (PyData × PyData) := fun D => encN (nD sD wyL D)
theorem e_extS {Γ Γ1 : List Sl} {n : DN} {ds es xs : List PyData} {m : Nat} {io : Bool} (h0 : cellL Γ m = some (io, es)) (h1 : n Γ = .val (xs, Γ1)) (h2 : cellL Γ1 m = some (io, ds)) (h3 : szB (ds ++ xs) = true) : dExt m n Γ = .val (.d true .none, Γ1.set m (mkS io (.lst (ds ++ xs)))) := by
  unfold dExt
  rw [h0, ofO_some, bind_val, h1, bind_val, h2, ofO_some, bind_val, h3]
  rfl
theorem allWays_q (net : List (List Int)) (hn : net.length ≤ 1000) (bs : List Int) (hB : BitsOk net bs) (st : Sd) (shut : List Int) (lies : Int) {L : List Sd} {U : Nat} (C : Cls (wyF net.length bs shut lies) L U) (hst : st ∈ L) (hb : (2 * U + 1) * L.length < 900000)
    (hm : ∀ s ∈ L, s.length ≤ 1000 ∧ ∀ z ∈ s, 0 ≤ z.1 ∧ z.1 < (net.length : Int)) :
    u_p_all_ways [.d (dL bs), .n (sD st), .d (dL shut), .d (.int lies)] = .val (.c (.dic .n (bkD (bks (wyF net.length bs shut lies) st))), [.un, .un, .un, .un]) := by
  refine ok_eq (ok_run rfl ?_)
  unfold b_p_all_ways
  apply w_setX
  · exact x_c rfl
  apply w_setX
  · exact x_c (c_l (n_lst (a_cons (e_frz (e_var rfl)) a_nil) rfl rfl))
  refine w_whileS (S := List (Sd × List Wy) × List Sd × Nat) (fun s => TrI (wyF net.length bs shut lies) L st s.1 s.2.1 ∧ mm L U s.1 s.2.1 < s.2.2 ∧ mm L U s.1 s.2.1 < 900002 ∧ trv (wyF net.length bs shut lies) s.2.2 s.1 s.2.1 = bks (wyF net.length bs shut lies) st) (fun s => mm L U s.1 s.2.1) (fun s => [.dat false (dL bs), .dat true (sD st), .dat false (dL shut), .dat true (.int lies), .own (.dic .n (bkD s.1)), .own (.lst (s.2.1.map sD)), .un, .un, .un, .un]) ([], [st], 1000000) rfl ⟨TI_start hst, by have := @mm_start L U st; dsimp only; omega, by have := @mm_start L U st; dsimp only; omega, rfl⟩ (by have := @mm_start L U st; show mm L U [] [st] < 1000000; omega) ?_
  rintro ⟨D, wl, j⟩ ⟨I, hj, hk, hR⟩
  dsimp only at I hj hk hR ⊢
  have hwl : wl.length < 1000000 := by unfold mm at hk; omega
  have hwl : wl.length < 1000000 := by unfold mm at hk; omega
  refine ⟨!decide (wl = []), _, t_tst (e_cmp (e_varO rfl) (e_ofN (n_lst a_nil rfl rfl)) (k_neT (eqt_list (eqt_tup eqt_pI)) (x := wl) (y := []) (by decide) rfl rfl)), fun hz => ?_, fun hz => ?_⟩
  · have hw : wl ≠ [] := by simpa using hz
    obtain ⟨w2, x, rfl⟩ := (List.eq_nil_or_concat wl).resolve_left hw
    rw [List.concat_eq_append] at I hj hk hR hwl ⊢
    have hx : x ∈ L := I.wm x (by simp)
    cases j with
    | zero => omega
    | succ j =>
    apply w_set
    · apply e_pop (ds := w2.map sD) (io := false)
      rw [List.map_append]; rfl
    by_cases hin : x ∈ D.map (·.1)
    · rw [trv_old hin] at hR
      have hmo := @mm_old L U D w2 x
      apply w_ifN
      · refine t_tst (e_cmp (e_var rfl) (e_varO rfl) (z := false) ?_)
        rw [k_inN nk_st (l := D) (vD := wyL) (k := x) rfl (ndA_own nk_st D rfl)]
        simp [hin]
      · rfl
      and_intros
      refine w_nil ⟨(D, w2, j), rfl, ⟨I.old hin, ?_, ?_, hR⟩, ?_⟩
      all_goals (dsimp only; omega)
    · rw [trv_new hin] at hR
      have hmn := mm_new C (D := D) (wl := w2) hx hin
      obtain ⟨hxl, hxm⟩ := hm x hx
      have hw := waysOn_q net hn bs hB x hxl hxm shut lies
      have hDl : D.length ≤ L.length := by
        have := I.nd.length_le_of_subset I.kl
        rwa [List.length_map] at this
      have hLl : L.length < 900000 := by
        have : 1 * L.length ≤ (2 * U + 1) * L.length := Nat.mul_le_mul_right _ (by omega)
        omega
      have hFl := C.up x hx
      have hsz : w2.length + 2 * (wyF net.length bs shut lies x).length < 900002 := by
        have h1 := hmn
        unfold mm at h1 hk
        rw [List.length_append, nx_len] at h1
        omega
      apply w_ifY
      · refine t_tst (e_cmp (e_var rfl) (e_varO rfl) (z := true) ?_)
        rw [k_inN nk_st (l := D) (vD := wyL) (k := x) rfl (ndA_own nk_st D rfl)]
        simp [hin]
      · rfl
      and_intros
      refine w_putN nk_st (vD := wyL) (l := D) (k := x) (v := wyF net.length bs shut lies x) (io := false) (e_frz (e_x (x_call (a_cons (e_var rfl) (a_cons (e_var rfl) (a_cons (e_var rfl) (a_cons (e_var rfl) a_nil)))) rfl hw) rfl)) rfl (e_var rfl) rfl (by omega) (by unfold putK'; rw [if_neg hin]) ?_
      and_intros
      refine w_forL (enc := wyD) (fr := true) (Γ1 := [.dat false (dL bs), .dat true (sD st), .dat false (dL shut), .dat true (.int lies), .own (.dic .n (bkD (D ++ [(x, wyF net.length bs shut lies x)]))), .own (.lst (w2.map sD)), .dat true (sD x), .un, .un, .un]) (wyF net.length bs shut lies x) (S := List Sd) (fun i s => s = w2 ++ nx ((wyF net.length bs shut lies x).take i)) (fun s => [.dat false (dL bs), .dat true (sD st), .dat false (dL shut), .dat true (.int lies), .own (.dic .n (bkD (D ++ [(x, wyF net.length bs shut lies x)]))), .own (.lst (s.map sD)), .dat true (sD x), .un, .un, .un]) w2 ?_ ?_ (by simp [nx]) ?_ ?_
      · apply i_seqL
        apply e_ixN nk_st (vD := wyL) (l := D ++ [(x, wyF net.length bs shut lies x)]) (k := x) (v := wyF net.length bs shut lies x)
        · exact e_varO rfl
        · exact e_var rfl
        · exact ndA_own nk_st _ rfl
        unfold lkp
        rw [List.find?_append]
        have : D.find? (fun z => decide (z.1 = x)) = none := by
          rw [List.find?_eq_none]
          intro z hz e
          exact hin (List.mem_map.mpr ⟨z, hz, of_decide_eq_true e⟩)
        rw [this]
        simp
      · rfl
      · rintro i w s hw' rfl
        refine ⟨_, rfl, ?_⟩
        apply w_expr
        · exact e_extS rfl (n_lst (a_cons (e_frz (e_var rfl)) (a_cons (e_frz (e_var rfl)) a_nil)) rfl rfl) rfl (by
            apply szB_of
            have hi := (List.getElem?_eq_some_iff.mp hw').1
            rw [List.length_append, List.length_map, List.length_append, nx_len, List.length_take]
            simp only [List.length_cons, List.length_nil]
            omega)
        refine w_nil ⟨w2 ++ nx ((wyF net.length bs shut lies x).take (i + 1)), ?_, rfl⟩
        have hq : (w2 ++ nx ((wyF net.length bs shut lies x).take i)).map sD ++ [sD w.2.1, sD w.2.2] = (w2 ++ nx ((wyF net.length bs shut lies x).take (i + 1))).map sD := by
          rw [take_step hw']
          unfold nx
          rw [List.flatMap_append, ← List.append_assoc, List.map_append]
          simp
        dsimp only
        rw [← hq]
        rfl
      · rintro s rfl
        rw [List.take_length]
        and_intros
        refine w_nil ⟨(D ++ [(x, wyF net.length bs shut lies x)], w2 ++ nx (wyF net.length bs shut lies x), j), rfl, ⟨I.new C hin, ?_, ?_, hR⟩, ?_⟩
        all_goals (dsimp only; omega)
  · have hw : wl = [] := by simpa using hz
    subst hw
    cases j with
    | zero => omega
    | succ j =>
      rw [trv_nil] at hR
      subst hR
      nofun
      exact ⟨_, _, rfl, rfl, rfl⟩
end PDW
set_option linter.all false
set_option maxRecDepth 100000
set_option maxHeartbeats 0
set_option autoImplicit false
namespace PDW
open PySem L2 PD
abbrev Bv := Int × Option Int
def opI : Option Int → PyData
  | none => .none
  | some k => .int k
abbrev bvD : Bv → PyData := fun z => .tuple [.int z.1, opI z.2]
def bwS (B : Sd → Int) (pr : Int → Int) (f : Bv) (w : Wy) : Bv := if f.2 = none ∨ pr w.1 + max2 (B w.2.1) (B w.2.2) < f.1 then (pr w.1 + max2 (B w.2.1) (B w.2.2), some w.1) else f
def bw (B : Sd → Int) (pr : Int → Int) (ws : List Wy) : Bv := ws.foldl (bwS B pr) (0, none)
theorem bw_congr {B B' : Sd → Int} {pr : Int → Int} {ws : List Wy} (h : ∀ t ∈ nx ws, B t = B' t) : bw B pr ws = bw B' pr ws := by
  unfold bw
  suffices h2 : ∀ f, ws.foldl (bwS B pr) f = ws.foldl (bwS B' pr) f from h2 _
  induction ws with
  | nil => intro f; rfl
  | cons w r ih =>
    intro f
    have h1 : B w.2.1 = B' w.2.1 := h _ (nx_mem.mpr ⟨w, by simp, .inl rfl⟩)
    have h2 : B w.2.2 = B' w.2.2 := h _ (nx_mem.mpr ⟨w, by simp, .inr rfl⟩)
    rw [List.foldl_cons, List.foldl_cons]
    have e : bwS B pr f w = bwS B' pr f w := by unfold bwS; rw [h1, h2]
    rw [e]
    refine ih (fun t ht => h t ?_) _
    obtain ⟨w', hw', q⟩ := nx_mem.mp ht
    exact nx_mem.mpr ⟨w', by simp [hw'], q⟩
def bvF (F : Sd → List Wy) (pr : Int → Int) : Nat → Sd → Bv
  | 0, _ => (0, none)
  | k + 1, s => bw (fun t => (bvF F pr k t).1) pr (F s)
def Dwn (F : Sd → List Wy) (lies : Int) (L : List Sd) : Prop := ∀ s ∈ L, 0 ≤ room lies s ∧ ∀ t ∈ nx (F s), room lies t < room lies s
theorem bvF_stable {F : Sd → List Wy} {pr : Int → Int} {lies : Int} {L : List Sd} (hc : ∀ s ∈ L, ∀ t ∈ nx (F s), t ∈ L) (hd : Dwn F lies L) : ∀ (k k' : Nat) (s : Sd), s ∈ L → room lies s < (k : Int) → room lies s < (k' : Int) → bvF F pr k s = bvF F pr k' s
  | 0, k', s, hs, h1, h2 => by have := (hd s hs).1; omega
  | k + 1, 0, s, hs, h1, h2 => by have := (hd s hs).1; omega
  | k + 1, k' + 1, s, hs, h1, h2 => by
    rw [bvF, bvF]
    apply bw_congr
    intro t ht
    have hr := (hd s hs).2 t ht
    have ht' := hc s hs t ht
    rw [bvF_stable hc hd k k' t ht' (by omega) (by omega)]
def bv (F : Sd → List Wy) (pr : Int → Int) (lies : Int) (s : Sd) : Bv := bvF F pr ((room lies s).toNat + 1) s
theorem bv_eq {F : Sd → List Wy} {pr : Int → Int} {lies : Int} {L : List Sd} (hc : ∀ s ∈ L, ∀ t ∈ nx (F s), t ∈ L) (hd : Dwn F lies L) {s : Sd} (hs : s ∈ L) : bv F pr lies s = bw (fun t => (bv F pr lies t).1) pr (F s) := by
  unfold bv
  rw [bvF]
  apply bw_congr
  intro t ht
  have hr := (hd s hs).2 t ht
  have ht' := hc s hs t ht
  have h0 := (hd t ht').1
  have h1 := (hd s hs).1
  rw [bvF_stable hc hd _ ((room lies t).toNat + 1) t ht' (by omega) (by omega)]
theorem intsOf_mapF {α : Type} (g : α → Int) : ∀ xs : List α, intsOf (xs.map fun z => PyData.int (g z)) = some (xs.map g)
  | [] => rfl
  | x :: xs => by
    rw [List.map_cons]
    show (intsOf (xs.map fun z => PyData.int (g z))).map _ = _
    rw [intsOf_mapF g xs]; rfl
theorem k_sumG {Γ : List Sl} {fr : Bool} {ds : List PyData} {ns : List Int} (h : intsOf ds = some ns) : kSum Γ [.d fr (.list ds)] = .val (.d true (.int ns.sum)) := by
  show (R.ofO (intsOf ds)).bind _ = _
  rw [h]; rfl
theorem roomIn_q (st : Sd) (hl : st.length ≤ 1000) (lies : Int) : u_p_room_in [.d (sD st), .d (.int lies)] = .val (.d (.int (room lies st)), [.un, .un]) := by
  have hr : room lies st = ((st.map fun z => lies + 1 - z.2).sum) := by
    clear hl
    induction st with
    | nil => rfl
    | cons z r ih => rw [room, ih]; simp
  refine ok_eq (ok_run rfl ?_)
  unfold b_p_room_in
  apply w_ret
  · exact e_B (a_cons (e_ofN (n_map (enc := pI) st (fun z => .int (lies + 1 - z.2)) (i_seqT (e_var rfl)) (by omega) rfl fun z hz => ⟨_, rfl, rfl, e_frz (e_I (e_add (e_var rfl) e_C) (e_var rfl) k_sub)⟩)) a_nil) (k_sumG (intsOf_mapF (fun z : Int × Int => lies + 1 - z.2) st))
  rw [hr]
  exact ⟨_, _, rfl, rfl, rfl⟩
theorem bestWay_q (ws : List Wy) (hw : ws.length ≤ 1000) (D : List (Sd × Bv)) (B : Sd → Int) (hB : ∀ t ∈ nx ws, ∃ b, lkp D t = some b ∧ b.1 = B t) (ps : List Int) (hp : ∀ w ∈ ws, 0 ≤ w.1 ∧ w.1 < (ps.length : Int)) :
    u_p_best_way [.d (wyL ws), .c (.dic .n (encN (nD sD bvD D))), .d (dL ps)] = .val (.d (bvD (bw B (fun k => ps[k.toNat]?.getD 0) ws)), [.un, .io (.dic .n (encN (nD sD bvD D))), .un]) := by
  refine ok_eq (ok_run rfl ?_)
  unfold b_p_best_way
  apply w_set
  · exact e_tup (a_cons e_C (a_cons e_C a_nil)) rfl rfl
  refine w_forL (enc := wyD) (fr := false) (Γ1 := [.dat false (wyL ws), .io (.dic .n (encN (nD sD bvD D))), .dat false (dL ps), .dat true (bvD (0, none)), .un, .un, .un, .un]) ws (S := Bv) (fun i s => s = (ws.take i).foldl (bwS B (fun k => ps[k.toNat]?.getD 0)) (0, none)) (fun s => [.dat false (wyL ws), .io (.dic .n (encN (nD sD bvD D))), .dat false (dL ps), .dat true (bvD s), .un, .un, .un, .un]) (0, none) (i_seqL (e_var rfl)) rfl rfl ?_ ?_
  · rintro i w s hw' rfl
    have hmem : w ∈ ws := List.mem_of_getElem? hw'
    obtain ⟨w0, w1⟩ := hp w hmem
    obtain ⟨k, s1, s2⟩ := w
    dsimp only at w0 w1
    obtain ⟨j, rfl⟩ : ∃ j : Nat, k = (j : Int) := ⟨k.toNat, by omega⟩
    obtain ⟨p, hpj⟩ : ∃ p, ps[j]? = some p := ⟨_, List.getElem?_eq_getElem (by omega)⟩
    obtain ⟨b1, hb1, hv1⟩ := hB s1 (nx_mem.mpr ⟨_, hmem, .inl rfl⟩)
    obtain ⟨b2, hb2, hv2⟩ := hB s2 (nx_mem.mpr ⟨_, hmem, .inr rfl⟩)
    have hts : (ws.take (i + 1)).foldl (bwS B (fun k => ps[k.toNat]?.getD 0)) (0, none) = bwS B (fun k => ps[k.toNat]?.getD 0) ((ws.take i).foldl (bwS B (fun k => ps[k.toNat]?.getD 0)) (0, none)) ((j : Nat), s1, s2) := by
      rw [take_step hw', List.foldl_append]; rfl
    generalize (ws.take i).foldl (bwS B (fun k => ps[k.toNat]?.getD 0)) (0, none) = f at hts ⊢
    refine ⟨_, rfl, ?_⟩
    apply w_set
    · exact e_add (e_ixL (e_var rfl) (e_var rfl) (at_nat (f := PyData.int) hpj)) (e_B (a_cons (e_ixT (ds := [.int b1.1, opI b1.2]) (e_ixN nk_st (vD := bvD) (l := D) (k := s1) (v := b1) (e_varI rfl) (e_var rfl) (ndA_io nk_st D rfl) hb1) e_C rfl) (a_cons (e_ixT (ds := [.int b2.1, opI b2.2]) (e_ixN nk_st (vD := bvD) (l := D) (k := s2) (v := b2) (e_varI rfl) (e_var rfl) (ndA_io nk_st D rfl) hb2) e_C rfl) a_nil)) k_mx2)
    have hz : (isN (opI f.2) || decide (p + max2 b1.1 b2.1 < f.1)) = decide (f.2 = none ∨ p + max2 (B s1) (B s2) < f.1) := by
      rw [hv1, hv2]
      obtain ⟨f1, f2⟩ := f
      cases f2 <;> simp [opI, isN]
    have hbe : bwS B (fun k => ps[k.toNat]?.getD 0) f ((j : Nat), s1, s2) = if f.2 = none ∨ p + max2 (B s1) (B s2) < f.1 then (p + max2 (B s1) (B s2), some ((j : Nat) : Int)) else f := by
      unfold bwS
      simp only [Int.toNat_natCast, hpj, Option.getD_some]
    apply w_ifB
    · exact t_or (t_tst (e_cmp (e_ixT (ds := [.int f.1, opI f.2]) (e_var rfl) e_C rfl) e_C (k_is rfl))) (fun _ => t_tst (e_cmp (e_var rfl) (e_ixT (ds := [.int f.1, opI f.2]) (e_var rfl) e_C rfl) k_I))
    · intro e
      rw [hz] at e
      and_intros
      apply w_set
      · exact e_tup (a_cons (e_frzT (e_var rfl) rfl) (a_cons (e_frzT (e_var rfl) rfl) a_nil)) rfl rfl
      and_intros
      refine w_nil ⟨(p + max2 b1.1 b2.1, some ((j : Nat) : Int)), rfl, ?_⟩
      rw [hts, hbe, if_pos (of_decide_eq_true e), hv1, hv2]
    · intro e
      rw [hz] at e
      and_intros
      refine w_nil ⟨f, rfl, ?_⟩
      rw [hts, hbe, if_neg (of_decide_eq_false e)]
  · rintro s rfl
    rw [List.take_length]
    apply w_ret
    · exact e_var rfl
    exact ⟨_, _, rfl, rfl, rfl⟩
end PDW
set_option linter.all false
set_option maxRecDepth 100000
set_option maxHeartbeats 0
set_option autoImplicit false
namespace PDW
open PySem L2 PD
open PySem.W (alike alikeAll dataLe dataLt)
abbrev rsD (lies : Int) : Sd → PyData := fun s => .tuple [.int (room lies s), sD s]
theorem eqt_sD : EqT sD 2 := eqt_tup eqt_pI
theorem alike_pI (a b : Int × Int) : alike (pI a) (pI b) = true := by simp [alike, alikeAll]
theorem alike_sDs : ∀ a b : Sd, alikeAll (a.map pI) (b.map pI) = true
  | [], _ => by rw [List.map_nil, alikeAll]
  | _ :: _, [] => by rw [List.map_nil, List.map_cons, alikeAll]
  | x :: a, y :: b => by rw [List.map_cons, List.map_cons, alikeAll, alike_pI, alike_sDs a b]; rfl
theorem alike_sD (a b : Sd) : alike (sD a) (sD b) = true := by rw [alike]; exact alike_sDs a b
theorem alike_rsD (lies : Int) (a b : Sd) : alike (rsD lies a) (rsD lies b) = true := by
  rw [alike, alikeAll, alikeAll, alikeAll, alike_sD]; simp [alike]
theorem sortOk_of {α : Type} {enc : α → PyData} {xs : List α} (h1 : ∀ a b, alike (enc a) (enc b) = true) (h2 : ∀ a ∈ xs, neTup (enc a) = true) (h3 : ∀ a, (enc a).canLay0 = true ∧ (enc a).depth ≤ 60) (hl : xs.length < 2 ^ 20) : sortOk (xs.map enc) = true := by
  unfold sortOk
  simp only [Bool.and_eq_true, Bool.or_eq_true, List.all_eq_true, decide_eq_true_eq]
  refine ⟨⟨⟨fun d hd d' hd' => ?_, .inl fun d hd => ?_⟩, fun d hd => ?_⟩, ?_⟩
  · obtain ⟨a, _, rfl⟩ := List.mem_map.mp hd
    obtain ⟨b, _, rfl⟩ := List.mem_map.mp hd'
    exact h1 a b
  · obtain ⟨a, ha, rfl⟩ := List.mem_map.mp hd
    exact h2 a ha
  · obtain ⟨a, _, rfl⟩ := List.mem_map.mp hd
    exact h3 a
  · have : (2 : Nat) ^ 20 ≤ sizeLine := by decide
    rw [List.length_map]; omega
theorem lay_rsD (lies : Int) (s : Sd) : (rsD lies s).canLay0 = true ∧ (rsD lies s).depth ≤ 60 := by
  have h1 := eqt_sD.lay s
  have h2 := eqt_sD.dep s
  have e1 : (rsD lies s).canLay0 = true := by
    show PyData.canLayAll0 [.int (room lies s), sD s] = true
    rw [PyData.canLayAll0, PyData.canLayAll0, PyData.canLayAll0, h1]; rfl
  refine ⟨e1, ?_⟩
  show PyData.depthAll [.int (room lies s), sD s] + 1 ≤ 60
  rw [PyData.depthAll, PyData.depthAll, PyData.depthAll]
  have : (PyData.int (room lies s)).depth = 0 := rfl
  omega
def ordK (lies : Int) (ks : List Sd) : List Sd := ks.mergeSort (dataLe false (rsD lies))
theorem sortDl_map {α : Type} {enc : α → PyData} (xs : List α) : sortDl (xs.map enc) = (xs.mergeSort (dataLe false enc)).map enc := by
  unfold sortDl
  exact (List.map_mergeSort (r := dataLe false enc) (s := dataLe false (fun d : PyData => d)) (f := enc) (l := xs) (fun a _ b _ => rfl)).symm
theorem ordK_perm (lies : Int) (ks : List Sd) : (ordK lies ks).Perm ks := List.mergeSort_perm _ _
theorem ordK_room (lies : Int) (ks : List Sd) : (ordK lies ks).Pairwise fun a b => room lies a ≤ room lies b := by
  refine (PySem.W.sort_pairwise (PySem.W.sortLe_total _ _ _) ks).imp fun {a b} h => ?_
  have h : (!dataLt (rsD lies b) (rsD lies a)) = true := h
  have e := PySem.W.dataLt_pair (x := .int (room lies b)) (y := sD b) (x' := .int (room lies a)) (y' := sD a) (by simp [alike]) (alike_sD b a)
  have h : (!dataLt (.tuple [.int (room lies b), sD b]) (.tuple [.int (room lies a), sD a])) = true := h
  rw [e, PySem.W.dataLt_int] at h
  refine Int.not_lt.mp fun hl => ?_
  rw [if_neg (by simp [PyData.eqv]; omega)] at h
  simp [hl] at h
theorem e_ixG {f : DF} {Γ Γ1 : List Sl} {ds : List PyData} {fr : Bool} {i : Int} {d : PyData} (h1 : f Γ = .val (.d fr (.int i), Γ1)) (h2 : atI ds i = some d) : dIxG ds f Γ = .val (.d true d, Γ1) := by
  unfold dIxG
  rw [h1, bind_val]
  show (R.ofO (atI ds i)).bind _ = _
  rw [h2]; rfl
inductive PrD (n : Nat) : PyData → List Int → Prop
  | n : PrD n .none (List.replicate n 1)
  | l (ps : List Int) : ps.length = n → PrD n (dL ps) ps
  | t (ps : List Int) : ps.length = n → PrD n (dT ps) ps
theorem PrD.len {n : Nat} {pd : PyData} {ps : List Int} (h : PrD n pd ps) : ps.length = n := by
  cases h with
  | n => simp
  | l _ h => exact h
  | t _ h => exact h
theorem priced_q (net : List (List Int)) (hn : net.length ≤ 1000) {pd : PyData} {ps : List Int} (h : PrD net.length pd ps) : u_p_priced [.d (dTT net), .d pd] = .val (.c (.lst (ps.map PyData.int)), [.un, .un]) := by
  refine ok_eq (ok_run rfl ?_)
  unfold b_p_priced
  cases h with
  | n =>
    simp_all_arith
    apply w_retC
    · exact c_l (n_map (enc := fun e : List Int => dT e) net (fun _ => .int 1) (i_seqT (e_var rfl)) (by omega) rfl fun z hz => ⟨_, rfl, rfl, e_C⟩)
    refine ⟨_, _, rfl, rfl, ?_⟩
    rw [List.map_const', List.map_replicate]
  | l ps hl =>
    bv_normalize
    apply w_retC
    · apply c_l
      apply n_B
      · array_mem_dec
      · exact k_list rfl (by show (false || _) = true; rw [Bool.false_or]; exact flatI ps)
    exact ⟨_, _, rfl, rfl, rfl⟩
  | t ps hl =>
    bv_normalize
    apply w_retC
    · apply c_l
      apply n_B
      · array_mem_dec
      · exact k_list rfl (by show (false || _) = true; rw [Bool.false_or]; exact flatI ps)
    exact ⟨_, _, rfl, rfl, rfl⟩
structure BkOk (net : List (List Int)) (bs shut : List Int) (lies : Int) (L : List Sd) (U : Nat) : Prop where
  cl : Cls (wyF net.length bs shut lies) L U
  sz : (2 * U + 1) * L.length < 900000
  ms : ∀ s ∈ L, s.length ≤ 1000 ∧ ∀ z ∈ s, 0 ≤ z.1 ∧ z.1 < (net.length : Int)
  ml : ∀ s ∈ L, ∀ z ∈ s, z.2 ≤ lies
  ne : ∀ s ∈ L, s ≠ []
abbrev ksB (n : Nat) (bs shut : List Int) (lies : Int) (st : Sd) : List Sd := (bks (wyF n bs shut lies) st).map (·.1)
abbrev prI (ps : List Int) : Int → Int := fun k => ps[k.toNat]?.getD 0
abbrev bvB (n : Nat) (bs shut : List Int) (lies : Int) (ps : List Int) : Sd → Bv := bv (wyF n bs shut lies) (prI ps) lies
def bestD (n : Nat) (bs shut : List Int) (lies : Int) (ps : List Int) (st : Sd) : List (Sd × Bv) := (ordK lies (ksB n bs shut lies st)).map fun s => (s, bvB n bs shut lies ps s)
theorem dwn_of {net : List (List Int)} {bs shut : List Int} {lies : Int} {L : List Sd} (hbl : bs.length = net.length) (hml : ∀ s ∈ L, ∀ z ∈ s, z.2 ≤ lies) : Dwn (wyF net.length bs shut lies) lies L := by
  intro s hs
  have h0 := room_nn (hml s hs)
  refine ⟨by omega, fun t ht => ?_⟩
  obtain ⟨w, hw, e⟩ := nx_mem.mp ht
  unfold wyF at hw
  obtain ⟨k, hk, rfl⟩ := List.mem_map.mp hw
  have hk1 := List.mem_filter.mp hk
  have hk2 := rng_mem.mp hk1.1
  obtain ⟨j, rfl⟩ : ∃ j : Nat, k = (j : Int) := ⟨k.toNat, by omega⟩
  obtain ⟨v, hv⟩ : ∃ b, bs[j]? = some b := ⟨_, List.getElem?_eq_getElem (by omega)⟩
  have h2 := hk1.2
  simp only [Bool.and_eq_true, Bool.not_eq_true', decide_eq_true_eq, decide_eq_false_iff_not, cmc_pos hv, cmc_lt hv] at h2
  rw [Int.toNat_natCast, hv] at e
  simp only [Option.getD_some] at e
  rcases e with rfl | rfl
  · refine (room_beh (hml s hs)).2 ?_
    obtain ⟨z, hz, e⟩ := h2.2.2
    exact ⟨z, hz, by unfold spk; rw [if_pos rfl, e]; rfl⟩
  · refine (room_beh (hml s hs)).2 ?_
    obtain ⟨z, hz, e⟩ := h2.2.1
    exact ⟨z, hz, by unfold spk; rw [if_neg (by decide), e]; rfl⟩
end PDW
set_option linter.all false
set_option maxRecDepth 100000
set_option maxHeartbeats 0
set_option autoImplicit false
namespace PDW
open PySem L2 PD
open PySem.W (alike alikeAll dataLe dataLt)
theorem lkp_map {κ ω : Type} [DecidableEq κ] (g : κ → ω) {l : List κ} {t : κ} (h : t ∈ l) : lkp (l.map fun s => (s, g s)) t = some (g t) := by
  obtain ⟨v, hv, hm⟩ := lkp_mem (l := l.map fun s => (s, g s)) (k := t) (by rw [List.map_map]; simpa using h)
  obtain ⟨s, _, e⟩ := List.mem_map.mp hm
  cases e
  exact hv
theorem lkp_uniq {κ ω : Type} [DecidableEq κ] {l : List (κ × ω)} {g : κ → ω} (h : ∀ z ∈ l, z.2 = g z.1) {t : κ} (ht : t ∈ l.map (·.1)) : lkp l t = some (g t) := by
  obtain ⟨v, hv, hm⟩ := lkp_mem ht
  rw [hv, ← h _ hm]
theorem bestOf_q (net : List (List Int)) (hn : net.length ≤ 1000) (bs : List Int) (hB : BitsOk net bs) (eb : uBitsOf [.d (dTT net)] = .val (.c (.lst (bs.map PyData.int)), [.un])) {bd pd : PyData} {shut ps : List Int} (hbd : BarD bd shut) (hpd : PrD net.length pd ps) (lies most : Int) (hl : atI [PyData.int 10, .int 6, .int 4, .int 3] lies = some (.int most)) (st : Sd) {L : List Sd} {U : Nat} (O : BkOk net bs shut lies L U) (hst : st ∈ L)
    (hc : (st.length : Int) ≤ most ∨ usf net.length bs st shut = []) :
    u_p_best_of [.d (dTT net), .n (sD st), .d bd, .d (.int lies), .d pd] = .val (.c (.dic .n (encN (nD sD bvD (bestD net.length bs shut lies ps st)))), [.un, .un, .un, .un, .un]) := by
  have hbl := hB.1
  have es := some_q hbd
  have epr := priced_q net hn hpd
  have hpl := hpd.len
  obtain ⟨hsl, hsm⟩ := O.ms st hst
  have eu := usefulBits_q net hn bs hB st hsl hsm shut
  have em := makesOf_q st (by omega)
  have ea := allWays_q net hn bs hB st shut lies O.cl hst O.sz O.ms
  have I := bks_TI (F := wyF net.length bs shut lies) O.cl hst O.sz
  have hD := dwn_of (shut := shut) hbl O.ml
  have hul := usf_len net.length bs st shut
  have hLl : L.length < 900000 := by
    have h1 := O.sz
    have : 1 * L.length ≤ (2 * U + 1) * L.length := Nat.mul_le_mul_right _ (by omega)
    omega
  have hKl : (ksB net.length bs shut lies st).length ≤ L.length := I.nd.length_le_of_subset I.kl
  have hperm := ordK_perm lies (ksB net.length bs shut lies st)
  have hrm := ordK_room lies (ksB net.length bs shut lies st)
  refine ok_eq (ok_run rfl ?_)
  unfold b_p_best_of
  have e0 : initS 13 [Ar.d (dTT net), Ar.n (sD st), Ar.d bd, Ar.d (.int lies), Ar.d pd] = [.dat false (dTT net), .dat true (sD st), .dat (scD bd) bd, .dat true (.int lies), .dat (scD pd) pd, .un, .un, .un, .un, .un, .un, .un, .un] := rfl
  rw [e0]
  apply w_set
  · exact e_x (x_call (a_cons (e_var rfl) a_nil) rfl eb) rfl
  apply w_set
  · exact e_x (x_call (a_cons (e_var rfl) a_nil) rfl es) rfl
  and_intros
  apply w_ifN (z := false)
  · by_cases hlt : (st.length : Int) ≤ most
    · refine t_andN (t_tst (e_cmp (e_B (a_cons (e_var rfl) a_nil) (k_lenT rfl)) (e_ixG (e_var rfl) hl) k_I)) ?_
      apply decide_eq_false
      rw [List.length_map]; omega
    · have hu0 := hc.resolve_left hlt
      rw [hu0] at eu
      refine t_andY (t_tst (e_cmp (e_B (a_cons (e_var rfl) a_nil) (k_lenT rfl)) (e_ixG (e_var rfl) hl) k_I)) ?_ (t_tst (e_cmp (e_x (x_call (a_cons (e_var rfl) (a_cons (e_x (x_call (a_cons (e_var rfl) a_nil) rfl em) rfl) (a_cons (e_var rfl) a_nil))) rfl eu) rfl) (e_ofN (n_lst a_nil rfl rfl)) (k_neT (eqt_list eqt_int) (by decide) (x := []) (y := []) rfl rfl)))
      apply decide_eq_true
      rw [List.length_map]; omega
  · rfl
  and_intros
  apply w_set
  · exact e_xKc (x_callM (a_cons (e_var rfl) (a_cons (e_frz (e_var rfl)) (a_cons (e_var rfl) (a_cons (e_var rfl) a_nil)))) rfl ea)
  apply w_set
  · exact e_x (x_call (a_cons (e_var rfl) (a_cons (e_var rfl) a_nil)) rfl epr) rfl
  apply w_setX
  · exact x_c rfl
  and_intros
  have hok : sortOk ((ksB net.length bs shut lies st).map (rsD lies)) = true := sortOk_of (alike_rsD lies) (fun a _ => rfl) (lay_rsD lies) (by omega)
  have hsrt : sortDl ((ksB net.length bs shut lies st).map (rsD lies)) = (ordK lies (ksB net.length bs shut lies st)).map (rsD lies) := sortDl_map _
  have hcomp : nComp [12] (gN 12) (iKeyN (dFrzK (dVar 7))) tYes (dFrz (dTup (dAc (eX (xCall u_p_room_in [] (dAc (dVar 12) (dAc (dVar 3) dA0)))) (dAc (dFrz (dVar 12)) dA0)))) [.dat false (dTT net), .dat true (sD st), .dat (scD bd) bd, .dat true (.int lies), .dat (scD pd) pd, .dat true (dL bs), .dat true (dL shut), .dat true (.dict (bkD (bks (wyF net.length bs shut lies) st))), .dat true (dL ps), .own (.dic .n (encN (nD sD bvD ([] : List (Sd × Bv))))), .un, .un, .un] = .val ((ksB net.length bs shut lies st).map (rsD lies), [.dat false (dTT net), .dat true (sD st), .dat (scD bd) bd, .dat true (.int lies), .dat (scD pd) pd, .dat true (dL bs), .dat true (dL shut), .dat true (.dict (bkD (bks (wyF net.length bs shut lies) st))), .dat true (dL ps), .own (.dic .n (encN (nD sD bvD ([] : List (Sd × Bv))))), .un, .un, .un]) := by
    refine n_map (enc := sD) (ksB net.length bs shut lies st) (rsD lies) (i_keyN nk_st (vD := wyL) (e_frzKD (e_var rfl))) (by omega) rfl fun s hs => ⟨_, rfl, rfl, ?_⟩
    have hr := roomIn_q s (O.ms s (I.kl s hs)).1 lies
    exact e_frz (e_tup (a_cons (e_x (x_call (a_cons (e_var rfl) (a_cons (e_var rfl) a_nil)) rfl hr) rfl) (a_cons (e_frz (e_var rfl)) a_nil)) rfl rfl)
  refine w_forL (enc := rsD lies) (fr := true) (Γ1 := [.dat false (dTT net), .dat true (sD st), .dat (scD bd) bd, .dat true (.int lies), .dat (scD pd) pd, .dat true (dL bs), .dat true (dL shut), .dat true (.dict (bkD (bks (wyF net.length bs shut lies) st))), .dat true (dL ps), .own (.dic .n (encN (nD sD bvD ([] : List (Sd × Bv))))), .un, .un, .un]) (ordK lies (ksB net.length bs shut lies st)) (S := List (Sd × Bv)) (fun i s => s = ((ordK lies (ksB net.length bs shut lies st)).take i).map fun s => (s, bvB net.length bs shut lies ps s)) (fun s => [.dat false (dTT net), .dat true (sD st), .dat (scD bd) bd, .dat true (.int lies), .dat (scD pd) pd, .dat true (dL bs), .dat true (dL shut), .dat true (.dict (bkD (bks (wyF net.length bs shut lies) st))), .dat true (dL ps), .own (.dic .n (encN (nD sD bvD s))), .un, .un, .un]) [] ?_ rfl rfl ?_ ?_
  · apply i_seqL
    rw [← hsrt]
    exact e_ofN (n_B (a_cons (e_ofN hcomp) a_nil) (k_sortD srtA_l hok))
  · rintro i s D hs rfl
    have hso : s ∈ ordK lies (ksB net.length bs shut lies st) := List.mem_of_getElem? hs
    have hsk : s ∈ ksB net.length bs shut lies st := hperm.mem_iff.mp hso
    have hsL := I.kl s hsk
    have hnd : (ordK lies (ksB net.length bs shut lies st)).Nodup := hperm.nodup_iff.mpr I.nd
    have hway : lkp (bks (wyF net.length bs shut lies) st) s = some (wyF net.length bs shut lies s) := lkp_uniq I.val hsk
    have hsplit : ordK lies (ksB net.length bs shut lies st) = (ordK lies (ksB net.length bs shut lies st)).take i ++ s :: (ordK lies (ksB net.length bs shut lies st)).drop (i + 1) := by
      obtain ⟨hi, e⟩ := List.getElem?_eq_some_iff.mp hs
      rw [← e, ← List.drop_eq_getElem_cons hi, List.take_append_drop]
    have hnot : s ∉ (ordK lies (ksB net.length bs shut lies st)).take i := by
      intro hm
      rw [hsplit, List.nodup_append] at hnd
      exact hnd.2.2 s hm s (by simp) rfl
    have hnx : ∀ t ∈ nx (wyF net.length bs shut lies s), t ∈ (ordK lies (ksB net.length bs shut lies st)).take i := by
      intro t ht
      have htk : t ∈ ksB net.length bs shut lies st := (I.cl s hsk t ht).elim id (fun h => nomatch h)
      have hto := hperm.mem_iff.mpr htk
      have hlt := (hD s hsL).2 t ht
      rw [hsplit] at hto hrm
      rcases List.mem_append.mp hto with h | h
      · exact h
      · exfalso
        have hp := (List.pairwise_append.mp hrm).2.1
        rcases List.mem_cons.mp h with rfl | h
        · omega
        · have := (List.pairwise_cons.mp hp).1 t h
          omega
    have hbw := bestWay_q (wyF net.length bs shut lies s) (by unfold wyF; rw [List.length_map]; have := usf_len net.length bs s shut; omega) (((ordK lies (ksB net.length bs shut lies st)).take i).map fun s => (s, bvB net.length bs shut lies ps s)) (fun t => (bvB net.length bs shut lies ps t).1) (fun t ht => ⟨_, lkp_map (bvB net.length bs shut lies ps) (hnx t ht), rfl⟩) ps (fun w hw => by
      unfold wyF at hw
      obtain ⟨k, hk, rfl⟩ := List.mem_map.mp hw
      have hk2 := rng_mem.mp (List.mem_filter.mp hk).1
      dsimp only
      omega)
    have hve : bw (fun t => (bvB net.length bs shut lies ps t).1) (fun k => ps[k.toNat]?.getD 0) (wyF net.length bs shut lies s) = bvB net.length bs shut lies ps s := (bv_eq O.cl.cl hD hsL).symm
    rw [hve] at hbw
    refine ⟨_, rfl, ?_⟩
    have htl : ((ordK lies (ksB net.length bs shut lies st)).take i).length < 2 ^ 20 := by
      rw [List.length_take, hperm.length_eq]; omega
    refine w_putN nk_st (vD := bvD) (l := ((ordK lies (ksB net.length bs shut lies st)).take i).map fun s => (s, bvB net.length bs shut lies ps s)) (k := s) (v := bvB net.length bs shut lies ps s) (io := false) (e_frz (e_x (x_callE (a_cons (e_ixN nk_st (vD := wyL) (l := bks (wyF net.length bs shut lies) st) (k := s) (v := wyF net.length bs shut lies s) (e_var rfl) (e_var rfl) (ndA_d nk_st _) hway) (a_cons (e_varO rfl) (a_cons (e_var rfl) a_nil))) rfl rfl rfl rfl hbw rfl rfl) rfl)) rfl (e_var rfl) rfl (by rw [List.length_map]; exact htl) (by
      unfold putK'
      rw [if_neg (by
        rw [List.map_map]
        intro h
        obtain ⟨y, hy, e⟩ := List.mem_map.mp h
        have e : y = s := e
        subst e
        exact hnot hy)]) ?_
    refine w_nil ⟨_, ?_, rfl⟩
    rw [take_step hs, List.map_append]
    rfl
  · rintro D rfl
    rw [List.take_length]
    apply w_retO
    · rfl
    exact ⟨_, _, rfl, rfl, rfl⟩
end PDW
set_option linter.all false
set_option maxRecDepth 100000
set_option maxHeartbeats 0
set_option autoImplicit false
namespace PDW
open PySem L2 PD
open PySem.W (alike alikeAll dataLe dataLt)
theorem bestD_lkp {n : Nat} {bs shut : List Int} {lies : Int} {ps : List Int} {st s : Sd} (h : s ∈ ksB n bs shut lies st) : lkp (bestD n bs shut lies ps st) s = some (bvB n bs shut lies ps s) :=
  lkp_map _ ((ordK_perm lies _).mem_iff.mpr h)
theorem numberOf_q (net : List (List Int)) (hn : net.length ≤ 1000) (bs : List Int) (hB : BitsOk net bs) (eb : uBitsOf [.d (dTT net)] = .val (.c (.lst (bs.map PyData.int)), [.un])) {bd pd : PyData} {shut ps : List Int} (hbd : BarD bd shut) (hpd : PrD net.length pd ps) (lies most : Int) (hl : atI [PyData.int 10, .int 6, .int 4, .int 3] lies = some (.int most)) (st : Sd) {L : List Sd} {U : Nat} (O : BkOk net bs shut lies L U) (hst : st ∈ L)
    (hc : (st.length : Int) ≤ most ∨ usf net.length bs st shut = []) :
    u_p_number_of [.d (dTT net), .n (sD st), .d bd, .d (.int lies), .d pd] = .val (.d (.int (bvB net.length bs shut lies ps st).1), [.un, .un, .un, .un, .un]) := by
  have hb := bestOf_q net hn bs hB eb hbd hpd lies most hl st O hst hc
  have I := bks_TI (F := wyF net.length bs shut lies) O.cl hst O.sz
  have hsk : st ∈ ksB net.length bs shut lies st := I.st.elim id (fun h => nomatch h)
  have hlk := bestD_lkp (ps := ps) hsk
  refine ok_eq (ok_run rfl ?_)
  unfold b_p_number_of
  have e0 : initS 5 [Ar.d (dTT net), Ar.n (sD st), Ar.d bd, Ar.d (.int lies), Ar.d pd] = [.dat false (dTT net), .dat true (sD st), .dat (scD bd) bd, .dat true (.int lies), .dat (scD pd) pd] := rfl
  rw [e0]
  apply w_ret
  · exact e_ixT (ds := [.int (bvB net.length bs shut lies ps st).1, opI (bvB net.length bs shut lies ps st).2]) (e_ixN nk_st (vD := bvD) (l := bestD net.length bs shut lies ps st) (k := st) (e_xKc (x_callM (a_cons (e_var rfl) (a_cons (e_frz (e_var rfl)) (a_cons (e_var rfl) (a_cons (e_var rfl) (a_cons (e_var rfl) a_nil))))) rfl hb)) (e_var rfl) (ndA_d nk_st _) hlk) e_C rfl
  exact ⟨_, _, rfl, rfl, rfl⟩
end PDW
set_option linter.all false
set_option maxRecDepth 100000
set_option maxHeartbeats 0
set_option autoImplicit false
namespace PDW
open PySem L2 PD
theorem bw_mem {B : Sd → Int} {pr : Int → Int} {ws : List Wy} : (∀ m, (bw B pr ws).2 = some m → ∃ w ∈ ws, w.1 = m) ∧ ((bw B pr ws).2 = none ↔ ws = []) := by
  have key : ∀ (ws : List Wy) (f : Bv), (∀ m, (ws.foldl (bwS B pr) f).2 = some m → f.2 = some m ∨ ∃ w ∈ ws, w.1 = m) ∧ ((ws.foldl (bwS B pr) f).2 = none ↔ f.2 = none ∧ ws = []) := by
    intro ws
    induction ws with
    | nil => intro f; exact ⟨fun m h => .inl h, by simp⟩
    | cons w r ih =>
      intro f
      rw [List.foldl_cons]
      obtain ⟨i1, i2⟩ := ih (bwS B pr f w)
      have hb : bwS B pr f w = f ∨ (bwS B pr f w).2 = some w.1 := by
        unfold bwS
        split
        · exact .inr rfl
        · exact .inl rfl
      have hb2 : (bwS B pr f w).2 ≠ none := by
        unfold bwS
        split
        · simp
        · rename_i h
          intro e
          exact h (.inl e)
      refine ⟨fun m h => ?_, ?_⟩
      · rcases i1 m h with h | ⟨w', hw', e⟩
        · rcases hb with hb | hb
          · rw [hb] at h; exact .inl h
          · rw [hb] at h; exact .inr ⟨w, by simp, Option.some.inj h⟩
        · exact .inr ⟨w', by simp [hw'], e⟩
      · rw [i2]
        simp [hb2]
  obtain ⟨k1, k2⟩ := key ws (0, none)
  refine ⟨fun m h => (k1 m h).resolve_left (by simp), by rw [bw, k2]; simp⟩
end PDW
set_option linter.all false
set_option maxRecDepth 100000
set_option maxHeartbeats 0
set_option autoImplicit false
namespace PDW
open PySem L2 PD
theorem rng_memB {a b x : Int} : x ∈ rng a b ↔ a ≤ x ∧ x < b := by
  constructor
  · exact rng_lo
  · rintro ⟨h1, h2⟩
    unfold rng
    exact List.mem_map.mpr ⟨(x - a).toNat, by rw [List.mem_range]; omega, by omega⟩
def sbs (lies : Int) : Sd → List Sd
  | [] => [[]]
  | z :: st => sbs lies st ++ (rng z.2 (lies + 1)).flatMap fun c => (sbs lies st).map fun s => (z.1, c) :: s
theorem sbs_cons {lies : Int} {z : Int × Int} {st t : Sd} : t ∈ sbs lies (z :: st) ↔ t ∈ sbs lies st ∨ ∃ c s, z.2 ≤ c ∧ c ≤ lies ∧ s ∈ sbs lies st ∧ t = (z.1, c) :: s := by
  rw [sbs, List.mem_append, List.mem_flatMap]
  constructor
  · rintro (h | ⟨c, hc, h⟩)
    · exact .inl h
    · obtain ⟨s, hs, rfl⟩ := List.mem_map.mp h
      have hc := rng_memB.mp hc
      exact .inr ⟨c, s, hc.1, by omega, hs, rfl⟩
  · rintro (h | ⟨c, s, h1, h2, hs, rfl⟩)
    · exact .inl h
    · exact .inr ⟨c, rng_memB.mpr ⟨h1, by omega⟩, List.mem_map.mpr ⟨s, hs, rfl⟩⟩
theorem sbs_trans {lies : Int} : ∀ {st s t : Sd}, s ∈ sbs lies st → t ∈ sbs lies s → t ∈ sbs lies st
  | [], s, t, h1, h2 => by
    have : s = [] := by simpa [sbs] using h1
    subst this
    exact h2
  | z :: st, s, t, h1, h2 => by
    rcases sbs_cons.mp h1 with h | ⟨c, s', hc, hl, hs', rfl⟩
    · exact sbs_cons.mpr (.inl (sbs_trans h h2))
    · rcases sbs_cons.mp h2 with h | ⟨c', t', hc', hl', ht', rfl⟩
      · exact sbs_cons.mpr (.inl (sbs_trans hs' h))
      · exact sbs_cons.mpr (.inr ⟨c', t', Int.le_trans hc hc', hl', sbs_trans hs' ht', rfl⟩)
theorem sbs_refl {lies : Int} : ∀ {st : Sd}, (∀ z ∈ st, z.2 ≤ lies) → st ∈ sbs lies st
  | [], _ => by simp [sbs]
  | z :: st, h => sbs_cons.mpr (.inr ⟨z.2, st, Int.le_refl _, h z (by simp), sbs_refl fun y hy => h y (by simp [hy]), rfl⟩)
theorem behF_cons (b : Int) (ans : Str) (lies : Int) (z : Int × Int) (st : Sd) : behF b ans lies (z :: st) = (if z.2 + b2n (spk b ans z.1) ≤ lies then [(z.1, z.2 + b2n (spk b ans z.1))] else []) ++ behF b ans lies st := by
  unfold behF
  rw [List.map_cons, List.filter_cons]
  by_cases h : z.2 + b2n (spk b ans z.1) ≤ lies <;> simp [h]
theorem behF_sbs {b : Int} {ans : Str} {lies : Int} : ∀ {st : Sd}, behF b ans lies st ∈ sbs lies st
  | [] => by simp [behF, sbs]
  | z :: st => by
    rw [behF_cons]
    have hb := b2n_nn (spk b ans z.1)
    by_cases h : z.2 + b2n (spk b ans z.1) ≤ lies
    · rw [if_pos h]
      exact sbs_cons.mpr (.inr ⟨_, _, by omega, h, behF_sbs, rfl⟩)
    · rw [if_neg h]
      exact sbs_cons.mpr (.inl behF_sbs)
theorem sbs_len {lies : Int} (k : Nat) (hk : lies + 2 ≤ (k : Int)) (h1 : 1 ≤ k) : ∀ {st : Sd}, (∀ z ∈ st, 0 ≤ z.2) → (sbs lies st).length ≤ k ^ st.length
  | [], _ => by simp [sbs]
  | z :: st, h => by
    have i := sbs_len k hk h1 (st := st) fun y hy => h y (by simp [hy])
    have hz := h z (by simp)
    rw [sbs, List.length_append, List.length_flatMap]
    have e : ((rng z.2 (lies + 1)).map fun c => ((sbs lies st).map fun s => (z.1, c) :: s).length) = (rng z.2 (lies + 1)).map fun _ => (sbs lies st).length := by
      apply List.map_congr_left; intro c _; rw [List.length_map]
    rw [e, List.map_const', List.sum_replicate_nat, rng_len, List.length_cons, Nat.pow_succ]
    have h2 : (lies + 1 - z.2).toNat + 1 ≤ k := by omega
    have h3 : ((lies + 1 - z.2).toNat + 1) * (sbs lies st).length ≤ k * k ^ st.length := Nat.mul_le_mul h2 i
    rw [Nat.add_mul, Nat.one_mul] at h3
    rw [Nat.mul_comm (k ^ st.length) k]
    omega
theorem sbs_mem {lies : Int} : ∀ {st t : Sd}, t ∈ sbs lies st → t.length ≤ st.length ∧ (∀ y ∈ t, y.2 ≤ lies ∧ ∃ z ∈ st, z.1 = y.1)
  | [], t, h => by
    have : t = [] := by simpa [sbs] using h
    subst this
    exact ⟨Nat.le_refl _, fun y hy => nomatch hy⟩
  | z :: st, t, h => by
    rcases sbs_cons.mp h with h | ⟨c, s, h1, h2, hs, rfl⟩
    · obtain ⟨i1, i2⟩ := sbs_mem h
      refine ⟨by rw [List.length_cons]; omega, fun y hy => ?_⟩
      obtain ⟨j1, w, hw, e⟩ := i2 y hy
      exact ⟨j1, w, by simp [hw], e⟩
    · obtain ⟨i1, i2⟩ := sbs_mem hs
      refine ⟨by rw [List.length_cons, List.length_cons]; omega, fun y hy => ?_⟩
      rcases List.mem_cons.mp hy with rfl | hy
      · exact ⟨h2, z, by simp, rfl⟩
      · obtain ⟨j1, w, hw, e⟩ := i2 y hy
        exact ⟨j1, w, by simp [hw], e⟩
theorem nx_wyF {net : List (List Int)} {bs : List Int} {shut : List Int} {lies : Int} (hbl : bs.length = net.length) {s t : Sd} (h : t ∈ nx (wyF net.length bs shut lies s)) : ∃ (k : Nat) (v : Int), bs[k]? = some v ∧ (k : Int) ∈ usf net.length bs s shut ∧ (t = behF v "bad" lies s ∨ t = behF v "good" lies s) ∧ (∃ z ∈ s, inb v z.1 = true) ∧ ∃ z ∈ s, inb v z.1 = false := by
  obtain ⟨w, hw, e⟩ := nx_mem.mp h
  unfold wyF at hw
  obtain ⟨k, hk, rfl⟩ := List.mem_map.mp hw
  have hk1 := List.mem_filter.mp hk
  have hk2 := rng_mem.mp hk1.1
  obtain ⟨j, rfl⟩ : ∃ j : Nat, k = (j : Int) := ⟨k.toNat, by omega⟩
  obtain ⟨v, hv⟩ : ∃ b, bs[j]? = some b := ⟨_, List.getElem?_eq_getElem (by omega)⟩
  have h2 := hk1.2
  simp only [Bool.and_eq_true, Bool.not_eq_true', decide_eq_true_eq, decide_eq_false_iff_not, cmc_pos hv, cmc_lt hv] at h2
  rw [Int.toNat_natCast, hv] at e
  exact ⟨j, v, hv, hk, e, h2.2.1, h2.2.2⟩
theorem behF_ne {v : Int} {ans : Str} {lies : Int} {s : Sd} (h : ∃ z ∈ s, spk v ans z.1 = false ∧ z.2 ≤ lies) : behF v ans lies s ≠ [] := by
  obtain ⟨z, hz, h1, h2⟩ := h
  intro e
  have : (z.1, z.2) ∈ behF v ans lies s := by
    unfold behF
    rw [List.mem_filter]
    refine ⟨List.mem_map.mpr ⟨z, hz, by rw [h1]; simp [b2n]⟩, decide_eq_true h2⟩
  rw [e] at this
  cases this
def sbN (lies : Int) (st : Sd) : List Sd := (sbs lies st).filter fun s => !s.isEmpty
theorem bkOk_small (net : List (List Int)) (bs shut : List Int) (hbl : bs.length = net.length) (lies : Int) (st : Sd) (hne : st ≠ []) (hsl : st.length ≤ 1000) (hm : ∀ z ∈ st, 0 ≤ z.1 ∧ z.1 < (net.length : Int)) (hc : ∀ z ∈ st, 0 ≤ z.2 ∧ z.2 ≤ lies) (k : Nat) (hk : lies + 2 ≤ (k : Int)) (h1 : 1 ≤ k) (hz : (2 * net.length + 1) * k ^ st.length < 900000) :
    BkOk net bs shut lies (sbN lies st) net.length ∧ st ∈ sbN lies st := by
  have mem : ∀ s, s ∈ sbN lies st ↔ s ∈ sbs lies st ∧ s ≠ [] := fun s => by
    unfold sbN
    rw [List.mem_filter]
    cases s <;> simp
  refine ⟨⟨⟨fun s hs t ht => ?_, fun s hs => ?_⟩, ?_, fun s hs => ?_, fun s hs z hz => ?_, fun s hs => ((mem s).mp hs).2⟩, (mem st).mpr ⟨sbs_refl fun z hz => (hc z hz).2, hne⟩⟩
  · obtain ⟨h2, h3⟩ := (mem s).mp hs
    have hsm := sbs_mem h2
    obtain ⟨j, v, hv, hj, e, hy, hn⟩ := nx_wyF hbl ht
    rw [mem]
    rcases e with rfl | rfl
    · refine ⟨sbs_trans h2 behF_sbs, behF_ne ?_⟩
      obtain ⟨z, hz, e⟩ := hy
      exact ⟨z, hz, by unfold spk; rw [if_pos rfl, e]; rfl, (hsm.2 z hz).1⟩
    · refine ⟨sbs_trans h2 behF_sbs, behF_ne ?_⟩
      obtain ⟨z, hz, e⟩ := hn
      exact ⟨z, hz, by unfold spk; rw [if_neg (by decide), e]; rfl, (hsm.2 z hz).1⟩
  · unfold wyF; rw [List.length_map]; exact usf_len _ _ _ _
  · have h6 : (sbN lies st).length ≤ (sbs lies st).length := List.length_filter_le _ _
    have h4 := sbs_len k hk h1 (st := st) fun z hz => (hc z hz).1
    have h5 : (2 * net.length + 1) * (sbN lies st).length ≤ (2 * net.length + 1) * k ^ st.length := Nat.mul_le_mul_left _ (by omega)
    omega
  · obtain ⟨h2, h3⟩ := sbs_mem ((mem s).mp hs).1
    refine ⟨by omega, fun y hy => ?_⟩
    obtain ⟨_, z, hz, e⟩ := h3 y hy
    rw [← e]; exact hm z hz
  · exact ((sbs_mem ((mem s).mp hs).1).2 z hz).1
end PDW
set_option linter.all false
set_option maxRecDepth 100000
set_option maxHeartbeats 0
set_option autoImplicit false
namespace PDW
open PySem L2 PD
abbrev lnet (n : Nat) : List (List Int) := [] :: (rng 0 ((n : Nat) - 1)).map fun m => [m]
theorem lnet_len {n : Nat} (h : 1 ≤ n) : (lnet n).length = n := by
  show ((rng 0 ((n : Nat) - 1)).map fun m : Int => [m]).length + 1 = n
  rw [List.length_map, rng_len]; omega
theorem lnet_ok (n : Nat) : NetOk (lnet n) := by
  intro k row hk
  cases k with
  | zero =>
    cases hk
    refine ⟨fun e he => ?_, List.Pairwise.nil⟩
    cases he
  | succ k =>
    have hk : ((rng 0 ((n : Nat) - 1)).map fun m : Int => [m])[k]? = some row := hk
    obtain ⟨x, hx, rfl⟩ := gmap hk
    obtain ⟨rfl, h2⟩ := rng_at hx
    refine ⟨fun e he => ?_, by simp⟩
    have : e = (k : Int) := by simpa using he
    omega
theorem own_inb {net : List (List Int)} {bs : List Int} {rs : List (List Int)} (hB : BitsOk net bs) (hF : FromOk net rs) {k : Nat} {v : Int} (hv : bs[k]? = some v) {r : List Int} (hr : rs[k]? = some r) {m : Int} (hm : 0 ≤ m) : decide (m ∈ r) = inb v m := by
  obtain ⟨j, rfl⟩ : ∃ j : Nat, m = (j : Int) := ⟨m.toNat, by omega⟩
  rw [Bool.eq_iff_iff, decide_eq_true_eq, inb_anc hB hv j]
  exact (hF k r hr).2.2.2 j
end PDW
set_option linter.all false
set_option maxRecDepth 100000
set_option maxHeartbeats 0
set_option autoImplicit false
namespace PDW
open PySem L2 PD
def pcR : Option (List Int) → Rs
  | none => .d .none
  | some ps => .c (.lst (ps.map PyData.int))
def pcD : Option (List Int) → PyData
  | none => .none
  | some ps => dL ps
theorem rsF_pc (pc : Option (List Int)) : rsF (pcR pc) = some (pcD pc) := by cases pc <;> rfl
def PcOk (n : Nat) (pc : Option (List Int)) : Prop := ∀ ps, pc = some ps → ps.length = n ∧ ∀ p ∈ ps, 1 ≤ p
theorem prices_b (d : Dk3) (net : List (List Int)) (hn : net.length ≤ 1000) : ∃ (pc : Option (List Int)) (d' : Dk3), u_qprices_k53 [.c (dk d), .d (dTT net)] = .val (pcR pc, [.io (dk d'), .un]) ∧ PcOk net.length pc := by
  have key : Ok (u_qprices_k53 [.c (dk d), .d (dTT net)]) fun z => ∃ (pc : Option (List Int)) (d' : Dk3), z = (pcR pc, [.io (dk d'), .un]) ∧ PcOk net.length pc := by
    refine ok_run rfl ?_
    unfold b_qprices_k53
    obtain ⟨r, d1, hr, r0, r1⟩ := take_t d 2 (by decide) (by decide)
    apply w_ifB
    · exact t_tst (e_cmp (e_x (x_callE (a_cons (e_varI rfl) (a_cons e_C a_nil)) rfl rfl rfl rfl hr rfl rfl) rfl) e_C k_eqI)
    · intro _
      and_intros
      apply w_ret
      · exact e_C
      exact ⟨_, _, rfl, rfl, none, d1, rfl, fun ps h => by cases h⟩
    intro _
    and_intros
    apply w_setX
    · exact x_c (c_l (n_lst a_nil rfl rfl))
    refine w_forL (enc := fun e : List Int => dT e) net (S := List Int × Dk3) (fun i s => s.1.length = i ∧ ∀ x ∈ s.1, 1 ≤ x) (fun s => [.io (dk s.2), .dat false (dTT net), .own (.lst (s.1.map PyData.int)), .un, .un]) ([], d1) (i_seqT (e_var rfl)) rfl ⟨rfl, by simp⟩ ?_ ?_
    · rintro i row ⟨w, d1⟩ hi ⟨h1, h2⟩
      dsimp only at h1 h2 ⊢
      have hil := (List.getElem?_eq_some_iff.mp hi).1
      refine ⟨_, rfl, ?_⟩
      obtain ⟨a, d2, ha, a0, a1⟩ := take_t d1 9 (by decide) (by decide)
      obtain ⟨c, d4, hc, c0, c1⟩ := take_t d2 (10 ^ 15) (by decide) (by decide)
      obtain ⟨q, d5, hq, q0, q1⟩ := take_t d4 6 (by decide) (by decide)
      apply w_set
      · exact e_ofN (n_lst (a_cons e_C (a_cons e_C (a_cons e_C (a_cons (e_add e_C (e_x (x_callE (a_cons (e_varI rfl) (a_cons e_C a_nil)) rfl rfl rfl rfl ha rfl rfl) rfl)) (a_cons (e_I e_C e_C (k_pow rfl)) (a_cons (e_add e_C (e_I (e_x (x_callE (a_cons (e_varI rfl) (a_cons (e_I e_C e_C (k_pow rfl)) a_nil)) rfl rfl rfl rfl hc rfl rfl) rfl) e_C (k_pow (decide_eq_true ⟨by decide, by decide, by omega⟩)))) a_nil)))))) rfl rfl)
      clear ha hc
      obtain ⟨x, hx, x0⟩ : ∃ x : Int, atI [PyData.int 1, .int 2, .int 3, .int (1 + a), .int (10 ^ (30 : Int).toNat), .int (1 + c ^ (2 : Int).toNat)] q = some (.int x) ∧ 1 ≤ x := by
        have : q = 0 ∨ q = 1 ∨ q = 2 ∨ q = 3 ∨ q = 4 ∨ q = 5 := by omega
        rcases this with e | e | e | e | e | e <;> rw [e]
        · exact ⟨_, rfl, by decide⟩
        · exact ⟨_, rfl, by decide⟩
        · exact ⟨_, rfl, by decide⟩
        · exact ⟨_, rfl, by omega⟩
        · exact ⟨_, rfl, by decide⟩
        · refine ⟨_, rfl, ?_⟩
          have : (0 : Int) ≤ c ^ 2 := by rw [Int.pow_succ, Int.pow_succ, Int.pow_zero, Int.one_mul]; exact Int.mul_nonneg c0 c0
          show 1 ≤ 1 + c ^ 2
          omega
      apply w_expr
      · apply e_ap
        · rfl
        · exact e_frzT (e_ixL (e_var rfl) (e_x (x_callE (a_cons (e_varI rfl) (a_cons e_C a_nil)) rfl rfl rfl rfl hq rfl rfl) rfl) hx) rfl
        · rfl
        · exact ltS_map (by omega)
      refine w_nil ⟨(w ++ [x], d5), by rw [List.map_append]; rfl, by simp [h1], fun y hy => ?_⟩
      rcases List.mem_append.mp hy with h | h
      · exact h2 y h
      · have : y = x := (by simpa using h)
        rw [this]; exact x0
    · rintro ⟨w, d1⟩ ⟨h1, h2⟩
      dsimp only at h1 h2 ⊢
      apply w_retO
      · rfl
      exact ⟨_, _, rfl, rfl, some w, d1, rfl, fun ps h => by cases h; exact ⟨h1, h2⟩⟩
  obtain ⟨z, e, w, d', rfl, h⟩ := key
  exact ⟨w, d', e, h⟩
theorem ins_mapB {α β : Type} (f : α → β) (xs : List α) (a : Int) (x : α) : (insI xs a x).map f = insI (xs.map f) a (f x) := by
  unfold insI
  rw [List.map_append, List.map_append, List.map_take, List.map_drop]
  rfl
theorem barred_b (d : Dk3) (net : List (List Int)) (hn : net.length ≤ 1000) : ∃ (xs : List Int) (d' : Dk3), u_qbarred_k53 [.c (dk d), .d (dTT net)] = .val (.c (.lst (xs.map PyData.int)), [.io (dk d'), .un]) ∧ xs.length ≤ 2 * net.length := by
  have key : Ok (u_qbarred_k53 [.c (dk d), .d (dTT net)]) fun z => ∃ (xs : List Int) (d' : Dk3), z = (.c (.lst (xs.map PyData.int)), [.io (dk d'), .un]) ∧ xs.length ≤ 2 * net.length := by
    refine ok_run rfl ?_
    unfold b_qbarred_k53
    obtain ⟨r, d1, hr, r0, r1⟩ := take_t d 4 (by decide) (by decide)
    obtain ⟨sh, hsh⟩ : ∃ sh : Int, atI [PyData.int 0, .int 0, .int 1, .int 8] r = some (.int sh) := by
      have : r = 0 ∨ r = 1 ∨ r = 2 ∨ r = 3 := by omega
      rcases this with rfl | rfl | rfl | rfl
      · exact ⟨0, rfl⟩
      · exact ⟨0, rfl⟩
      · exact ⟨1, rfl⟩
      · exact ⟨8, rfl⟩
    apply w_set
    · exact e_frzT (e_ixL (e_ofN (n_lst (a_cons e_C (a_cons e_C (a_cons e_C (a_cons e_C a_nil)))) rfl rfl)) (e_x (x_callE (a_cons (e_varI rfl) (a_cons e_C a_nil)) rfl rfl rfl rfl hr rfl rfl) rfl) hsh) rfl
    apply w_setX
    · exact x_c (c_l (n_lst a_nil rfl rfl))
    refine w_forR (N := (net.length : Nat)) (S := List Int × Dk3) (fun i s => s.1.length ≤ 2 * i) (fun s => [.io (dk s.2), .dat false (dTT net), .dat true (.int sh), .own (.lst (s.1.map PyData.int)), .un, .un]) ([], d1) (i_range1 (e_B (a_cons (e_var rfl) a_nil) (k_lenJ rfl)) (cRng_of (by decide) (by decide) (by omega) (by omega))) rfl (Nat.zero_le _) ?_ ?_
    · rintro i ⟨fo, d2⟩ hi h1
      dsimp only at h1 ⊢
      refine ⟨_, rfl, ?_⟩
      obtain ⟨a, d3, ha, a0, a1⟩ := take_t d2 8 (by decide) (by decide)
      apply w_ifB
      · exact t_tst (e_cmp (e_x (x_callE (a_cons (e_varI rfl) (a_cons e_C a_nil)) rfl rfl rfl rfl ha rfl rfl) rfl) (e_var rfl) k_I)
      · intro _
        and_intros
        obtain ⟨q, d4, hq, q0, q1⟩ := take_t d3 2 (by decide) (by decide)
        refine w_forR (N := 1 + q) (S := List Int × Dk3) (fun j s => s.1.length ≤ 2 * i + j) (fun s => [.io (dk s.2), .dat false (dTT net), .dat true (.int sh), .own (.lst (s.1.map PyData.int)), .dat true (.int (i : Nat)), .un]) (fo, d4) (i_range1 (e_add e_C (e_x (x_callE (a_cons (e_varI rfl) (a_cons e_C a_nil)) rfl rfl rfl rfl hq rfl rfl) rfl)) (cRng_of (by decide) (by decide) (by omega) (by omega))) rfl h1 ?_ ?_
        · rintro j ⟨f2, d5⟩ hj h2
          dsimp only at h2 ⊢
          refine ⟨_, rfl, ?_⟩
          obtain ⟨p, d6, hp, p0, p1⟩ := take_t d5 ((f2.length : Nat) + 1) (by omega) (by omega)
          apply w_expr
          · apply e_ins
            · rfl
            · exact a_cons (e_x (x_callE (a_cons (e_varI rfl) (a_cons (e_add (e_B (a_cons (e_varO rfl) a_nil) (k_lenI rfl)) e_C) a_nil)) rfl rfl rfl rfl hp rfl rfl) rfl) (a_cons (e_frzT (e_var rfl) rfl) a_nil)
            · rfl
            · unfold cIns
              have : (2 : Nat) ^ 20 ≤ sizeLine := by decide
              rw [decide_eq_true (by rw [List.length_map]; omega), decide_eq_true ⟨by omega, by omega⟩]
              rfl
          refine w_nil ⟨(insI f2 p (i : Int), d6), ?_, ?_⟩
          · dsimp only
            rw [ins_mapB (fun x : Int => PyData.int x)]
            rfl
          · show (insI f2 p _).length ≤ _
            unfold insI
            simp
            omega
        · rintro ⟨f2, d5⟩ h2
          dsimp only at h2 ⊢
          and_intros
          exact w_nil ⟨(f2, d5), rfl, by dsimp only; omega⟩
      · intro _
        and_intros
        exact w_nil ⟨(fo, d3), rfl, by dsimp only; omega⟩
    · rintro ⟨fo, d2⟩ h1
      dsimp only at h1 ⊢
      apply w_retO
      · rfl
      exact ⟨_, _, rfl, rfl, fo, d2, rfl, by omega⟩
  obtain ⟨z, e, w, d', rfl, h⟩ := key
  exact ⟨w, d', e, h⟩
end PDW
set_option linter.all false
set_option maxRecDepth 100000
set_option maxHeartbeats 0
set_option autoImplicit false
namespace PDW
open PySem L2 PD
theorem eraseIdx_mapB {α β : Type} (f : α → β) : ∀ (xs : List α) (j : Nat), (xs.eraseIdx j).map f = (xs.map f).eraseIdx j
  | [], _ => rfl
  | x :: xs, 0 => rfl
  | x :: xs, j + 1 => by simp [eraseIdx_mapB f xs j]
theorem stand_b (d : Dk3) (net : List (List Int)) (hn0 : 1 ≤ net.length) (hn : net.length ≤ 1000) (lies b : Int) (hl : atI [PyData.int 7, .int 4, .int 3, .int 2] lies = some (.int b)) (hb : 1 ≤ b ∧ b ≤ 7) (hl0 : 0 ≤ lies) (hl1 : lies ≤ 3) : ∃ (st : Sd) (d' : Dk3), u_qstand_k53 [.c (dk d), .d (dTT net), .d (.int lies)] = .val (.d (sD st), [.io (dk d'), .un, .un]) ∧ st ≠ [] ∧ (st.length : Int) ≤ b ∧ (∀ z ∈ st, 0 ≤ z.1 ∧ z.1 < (net.length : Int)) ∧ ∀ z ∈ st, 0 ≤ z.2 ∧ z.2 ≤ lies := by
  have key : Ok (u_qstand_k53 [.c (dk d), .d (dTT net), .d (.int lies)]) fun z => ∃ (st : Sd) (d' : Dk3), z = (.d (sD st), [.io (dk d'), .un, .un]) ∧ st ≠ [] ∧ (st.length : Int) ≤ b ∧ (∀ z ∈ st, 0 ≤ z.1 ∧ z.1 < (net.length : Int)) ∧ ∀ z ∈ st, 0 ≤ z.2 ∧ z.2 ≤ lies := by
    refine ok_run rfl ?_
    unfold b_qstand_k53
    apply w_setX
    · exact x_c (c_l (n_lrng1 (e_B (a_cons (e_var rfl) a_nil) (k_lenJ rfl)) (by unfold cLrg; rw [cRng_of (by decide) (by decide) (by omega) (by omega)]; exact decide_eq_true (by omega))))
    apply w_setX
    · exact x_c (c_l (n_lst a_nil rfl rfl))
    have hmn : 1 ≤ min2 b (net.length : Nat) ∧ min2 b (net.length : Nat) ≤ b ∧ min2 b (net.length : Nat) ≤ (net.length : Nat) := by unfold min2; split <;> omega
    obtain ⟨r, d1, hr, r0, r1⟩ := take_t d (min2 b (net.length : Nat)) (by omega) (by omega)
    refine w_forR (N := 1 + r) (S := List Int × List Int × Dk3) (fun i s => (∀ x ∈ s.1, 0 ≤ x ∧ x < (net.length : Int)) ∧ (∀ x ∈ s.2.1, 0 ≤ x ∧ x < (net.length : Int)) ∧ s.2.1.length = i ∧ s.1.length + i = net.length) (fun s => [.io (dk s.2.2), .dat false (dTT net), .dat true (.int lies), .own (.lst (s.1.map PyData.int)), .own (.lst (s.2.1.map PyData.int)), .un, .un]) (rng 0 (net.length : Nat), [], d1) (i_range1 (e_add e_C (e_x (x_callE (a_cons (e_varI rfl) (a_cons (e_B (a_cons (e_ixL (e_ofN (n_lst (a_cons e_C (a_cons e_C (a_cons e_C (a_cons e_C a_nil)))) rfl rfl)) (e_var rfl) hl) (a_cons (e_B (a_cons (e_var rfl) a_nil) (k_lenJ rfl)) a_nil)) k_mn2) a_nil)) rfl rfl rfl rfl hr rfl rfl) rfl)) (cRng_of (by decide) (by decide) (by omega) (by omega))) rfl ⟨fun x hx => rng_mem.mp hx, fun x hx => (nomatch hx), rfl, by rw [rng_len]; omega⟩ ?_ ?_
    · rintro i ⟨left, mk, d2⟩ hi ⟨h1, h2, h3, h5⟩
      dsimp only at h1 h2 h3 h5 ⊢
      refine ⟨_, rfl, ?_⟩
      obtain ⟨q, d3, hq, q0, q1⟩ := take_t d2 (left.length : Nat) (by omega) (by omega)
      obtain ⟨j, rfl⟩ : ∃ j : Nat, q = (j : Int) := ⟨q.toNat, by omega⟩
      have hjl : j < left.length := by omega
      obtain ⟨x, hx⟩ : ∃ x, left[j]? = some x := ⟨_, List.getElem?_eq_getElem hjl⟩
      apply w_expr
      · apply e_ap
        · rfl
        · exact e_frz (e_popAt (ds := left.map PyData.int) (io := false) (y := .int x) (j := j) rfl (e_x (x_callE (a_cons (e_varI rfl) (a_cons (e_B (a_cons (e_varO rfl) a_nil) (k_lenI rfl)) a_nil)) rfl rfl rfl rfl hq rfl rfl) rfl) rfl (by rw [List.getElem?_map, hx]; rfl) (by omega))
        · rfl
        · exact ltS_map (by omega)
      refine w_nil ⟨(left.eraseIdx j, mk ++ [x], d3), ?_, fun y hy => h1 y (List.mem_of_mem_eraseIdx hy), fun y hy => ?_, by simp; omega, by rw [List.length_eraseIdx, if_pos hjl]; omega⟩
      · dsimp only
        rw [List.map_append, ← eraseIdx_mapB]
        rfl
      · rcases List.mem_append.mp hy with hy | hy
        · exact h2 y hy
        · rw [List.mem_singleton.mp hy]; exact h1 x (List.mem_of_getElem? hx)
    · rintro ⟨left, mk, d2⟩ ⟨h1, h2, h3, h5⟩
      dsimp only at h1 h2 h3 h5 ⊢
      obtain ⟨out, ⟨st, d3⟩, ec, hout, hs1, hs2, hs3⟩ := n_compS (enc := PyData.int) (sortI mk) (S := Sd × Dk3) (fun j out s => out = s.1.map pI ∧ s.1.length = j ∧ (∀ z ∈ s.1, z.1 ∈ mk) ∧ ∀ z ∈ s.1, 0 ≤ z.2 ∧ z.2 ≤ lies)
        (fun s => [.io (dk s.2), .dat false (dTT net), .dat true (.int lies), .own (.lst (left.map PyData.int)), .own (.lst (mk.map PyData.int)), .un, .un]) ([], d2)
        (vs := [6]) (g := gN 6) (it := iSeq (dOfN (dBN kSorted (dAc (dVar 4) dA0)))) (t := PD.tYes) (e := dFrz (dTup (dAc (dFrz (dVar 6)) (dAc (eX (xCallC u_qtake 0 [] (dAc (dVar 0) (dAc (dAdd (dVar 2) (dC (.int 1))) dA0)))) dA0)))) (Γ := [.io (dk d2), .dat false (dTT net), .dat true (.int lies), .own (.lst (left.map PyData.int)), .own (.lst (mk.map PyData.int)), .un, .un])
        (i_seqL (fr := true) (e_ofN (n_B (a_cons (e_varO rfl) a_nil) (k_sorted (intsOf_map mk))))) (by rw [(sortI_perm mk).length_eq]; omega) rfl ⟨rfl, rfl, by simp, by simp⟩ (by
          rintro j x out ⟨s, d4⟩ hx ⟨rfl, g1, g2, g3⟩
          dsimp only at g1 g2 g3 ⊢
          obtain ⟨q, d5, hq, q0, q1⟩ := take_t d4 (lies + 1) (by omega) (by omega)
          have hxm : x ∈ mk := sortI_mem.mp (List.mem_of_getElem? hx)
          refine ⟨_, rfl, _, _, rfl, fun _ => ⟨_, _, (s ++ [(x, q)], d5), e_frz (e_tup (a_cons (e_frz (e_var rfl)) (a_cons (e_x (x_callE (a_cons (e_varI rfl) (a_cons (e_add (e_var rfl) e_C) a_nil)) rfl rfl rfl rfl hq rfl rfl) rfl) a_nil)) rfl rfl), rfl, ?_⟩, fun e => by cases e⟩
          refine ⟨by rw [List.map_append]; rfl, by simp; omega, fun z hz => ?_, fun z hz => ?_⟩
          · rcases List.mem_append.mp hz with h | h
            · exact g2 z h
            · rw [List.mem_singleton.mp h]; exact hxm
          · rcases List.mem_append.mp hz with h | h
            · exact g3 z h
            · rw [List.mem_singleton.mp h]; dsimp only; omega)
      dsimp only at hout hs1 hs2 hs3
      subst hout
      apply w_ret
      · exact e_B (a_cons (e_ofN ec) a_nil) (k_tup rfl)
      refine ⟨_, _, rfl, rfl, st, d3, rfl, fun e => ?_, ?_, fun z hz => h2 _ (hs2 z hz), hs3⟩
      · subst e
        have h6 : (sortI mk).length = 0 := hs1.symm
        rw [(sortI_perm mk).length_eq] at h6
        omega
      · rw [hs1, (sortI_perm mk).length_eq]; omega
  obtain ⟨z, e, st, d', rfl, h⟩ := key
  exact ⟨st, d', e, h⟩
end PDW
set_option linter.all false
set_option maxRecDepth 100000
set_option maxHeartbeats 0
set_option autoImplicit false
namespace PDW
open PySem L2 PD
theorem e_repT {Γ Γ1 Γ2 : List Sl} {f g : DF} {fr fr2 : Bool} {ds : List PyData} {k : Int} (h1 : f Γ = .val (.d fr (.tuple ds), Γ1)) (h2 : g Γ1 = .val (.d fr2 (.int k), Γ2)) (hne : ds ≠ []) (hk : 2 ≤ k) (hk2 : k ≤ 1000) (hl : ds.length ≤ 1000) : dRepT f g Γ = .val (.d fr (.tuple (repD k ds)), Γ2) := by
  unfold dRepT
  rw [h1, bind_val, h2, bind_val]
  show (gq _ _).bind _ = _
  rw [gq_of _ (by rw [decide_eq_true hne, decide_eq_true hk, decide_eq_true hk2, decide_eq_true hl]; rfl)]
  rfl
abbrev snet (m : Nat) : List (List Int) := [] :: List.replicate m [0]
theorem snet_ok (m : Nat) : NetOk (snet m) := by
  intro k row hk
  cases k with
  | zero =>
    cases hk
    exact ⟨fun e he => (nomatch he), List.Pairwise.nil⟩
  | succ k =>
    have hk : (List.replicate m [(0 : Int)])[k]? = some row := hk
    rw [List.getElem?_replicate] at hk
    split at hk
    · cases hk
      refine ⟨fun e he => ?_, by simp⟩
      have : e = 0 := by simpa using he
      omega
    · cases hk
theorem snet_enc (m : Nat) : PyData.tuple ([PyData.tuple []] ++ repD ((m : Nat) : Int) [PyData.tuple [.int 0]]) = dTT (snet m) := by
  unfold repD
  rw [Int.toNat_natCast, List.flatten_replicate_singleton]
  show _ = PyData.tuple (dT [] :: (List.replicate m [(0 : Int)]).map fun r => dT r)
  rw [List.map_replicate]
  rfl
structure QOk (net : List (List Int)) (st : Sd) (shut : List Int) (lies : Int) (pc : Option (List Int)) : Prop where
  ok : NetOk net
  len : 1 ≤ net.length ∧ net.length ≤ 15
  ne : st ≠ []
  rng : ∀ z ∈ st, 0 ≤ z.1 ∧ z.1 < (net.length : Int)
  cnt : ∀ z ∈ st, 0 ≤ z.2 ∧ z.2 ≤ lies
  lie : 0 ≤ lies ∧ lies ≤ 3
  most : ∃ m : Nat, atI [PyData.int 10, .int 6, .int 4, .int 3] lies = some (.int (m : Nat)) ∧ st.length ≤ m ∧ m ≤ 10
  shl : shut.length ≤ 1000
  pc : PcOk net.length pc
abbrev qD (net : List (List Int)) (st : Sd) (shut : List Int) (lies : Int) (pc : Option (List Int)) : PyData := .tuple [dTT net, sD st, dL shut, .int lies, pcD pc]
theorem star_b (d : Dk3) (lies : Int) (n : Nat) (hl : atI [PyData.int 10, .int 6, .int 4, .int 3] lies = some (.int (n : Nat))) (hl0 : 0 ≤ lies) (hl3 : lies ≤ 3) (hn : 3 ≤ n) (hn2 : n ≤ 10) : ∃ (net : List (List Int)) (st : Sd) (shut : List Int) (pc : Option (List Int)) (d' : Dk3), u_qstar [.c (dk d), .d (.int lies)] = .val (.d (qD net st shut lies pc), [.io (dk d'), .un]) ∧ QOk net st shut lies pc := by
  have key : Ok (u_qstar [.c (dk d), .d (.int lies)]) fun z => ∃ (net : List (List Int)) (st : Sd) (shut : List Int) (pc : Option (List Int)) (d' : Dk3), z = (.d (qD net st shut lies pc), [.io (dk d'), .un]) ∧ QOk net st shut lies pc := by
    refine ok_run rfl ?_
    unfold b_qstar
    apply w_set
    · exact e_frzT (e_ixL (e_ofN (n_lst (a_cons e_C (a_cons e_C (a_cons e_C (a_cons e_C a_nil)))) rfl rfl)) (e_var rfl) hl) rfl
    apply w_set
    · exact e_cat (e_tup (a_cons (e_tup a_nil rfl rfl) a_nil) rfl rfl) (e_repT (k := (n : Int) + 1) (e_tup (a_cons (e_tup (a_cons e_C a_nil) rfl rfl) a_nil) rfl rfl) (e_add (e_var rfl) e_C) (by simp) (by omega) (by omega) (by simp)) (szB_of (by unfold repD; rw [List.length_append, List.flatten_replicate_singleton, List.length_replicate]; simp; omega))
    show W _ [.io (dk d), .dat true (.int lies), .dat true (.int (n : Nat)), .dat true (PyData.tuple ([PyData.tuple []] ++ repD ((n : Int) + 1) [PyData.tuple [.int 0]])), .un, .un, .un, .un] _
    rw [show ((n : Int) + 1) = ((n + 1 : Nat) : Int) by omega, snet_enc (n + 1)]
    have hsl : (snet (n + 1)).length = n + 2 := by simp
    apply w_setX
    · exact x_c (c_l (n_lrng1 (e_add (e_var rfl) e_C) (by unfold cLrg; rw [cRng_of (by decide) (by decide) (by omega) (by omega)]; exact decide_eq_true (by omega))))
    refine w_forR (N := 2) (S := List Int × Dk3) (fun i s => s.1.length + i = n + 2 ∧ ∀ x ∈ s.1, 0 ≤ x ∧ x < (n : Int) + 2) (fun s => [.io (dk s.2), .dat true (.int lies), .dat true (.int (n : Nat)), .dat true (dTT (snet (n + 1))), .own (.lst (s.1.map PyData.int)), .un, .un, .un]) (rng 0 ((n : Int) + 2), d) (i_range1 (fr := true) e_C (cRng_of (by decide) (by decide) (by decide) (by decide))) rfl ⟨by dsimp only; rw [rng_len]; omega, fun x hx => rng_mem.mp hx⟩ ?_ ?_
    · rintro i ⟨left, d2⟩ hi ⟨h1, h2⟩
      dsimp only at h1 h2 ⊢
      refine ⟨_, rfl, ?_⟩
      obtain ⟨q, d3, hq, q0, q1⟩ := take_t d2 (left.length : Nat) (by omega) (by omega)
      obtain ⟨j, rfl⟩ : ∃ j : Nat, q = (j : Int) := ⟨q.toNat, by omega⟩
      have hjl : j < left.length := by omega
      obtain ⟨x, hx⟩ : ∃ x, left[j]? = some x := ⟨_, List.getElem?_eq_getElem hjl⟩
      apply w_expr
      · exact e_popAt (ds := left.map PyData.int) (io := false) (y := .int x) (j := j) rfl (e_x (x_callE (a_cons (e_varI rfl) (a_cons (e_B (a_cons (e_varO rfl) a_nil) (k_lenI rfl)) a_nil)) rfl rfl rfl rfl hq rfl rfl) rfl) rfl (by rw [List.getElem?_map, hx]; rfl) (by omega)
      refine w_nil ⟨(left.eraseIdx j, d3), ?_, ?_, fun y hy => h2 y (List.mem_of_mem_eraseIdx hy)⟩
      · dsimp only
        rw [eraseIdx_mapB]
        rfl
      · dsimp only
        rw [List.length_eraseIdx, if_pos hjl]; omega
    rintro ⟨left, d2⟩ ⟨g1, g2⟩
    dsimp only at g1 g2 ⊢
    apply w_setX
    · exact x_c (c_l (n_lrng1 (e_add (e_var rfl) e_C) (by unfold cLrg; rw [cRng_of (by decide) (by decide) (by omega) (by omega)]; exact decide_eq_true (by omega))))
    refine w_forR (N := 4) (S := List Int × Dk3) (fun i s => s.1.length + i = n + 2) (fun s => [.io (dk s.2), .dat true (.int lies), .dat true (.int (n : Nat)), .dat true (dTT (snet (n + 1))), .own (.lst (left.map PyData.int)), .un, .own (.lst (s.1.map PyData.int)), .un]) (rng 0 ((n : Int) + 2), d2) (i_range1 (fr := true) e_C (cRng_of (by decide) (by decide) (by decide) (by decide))) rfl (by dsimp only; rw [rng_len]; omega) ?_ ?_
    · rintro i ⟨sh, d2⟩ hi h1
      dsimp only at h1 ⊢
      refine ⟨_, rfl, ?_⟩
      obtain ⟨q, d3, hq, q0, q1⟩ := take_t d2 (sh.length : Nat) (by omega) (by omega)
      obtain ⟨j, rfl⟩ : ∃ j : Nat, q = (j : Int) := ⟨q.toNat, by omega⟩
      have hjl : j < sh.length := by omega
      obtain ⟨x, hx⟩ : ∃ x, sh[j]? = some x := ⟨_, List.getElem?_eq_getElem hjl⟩
      apply w_expr
      · exact e_popAt (ds := sh.map PyData.int) (io := false) (y := .int x) (j := j) rfl (e_x (x_callE (a_cons (e_varI rfl) (a_cons (e_B (a_cons (e_varO rfl) a_nil) (k_lenI rfl)) a_nil)) rfl rfl rfl rfl hq rfl rfl) rfl) rfl (by rw [List.getElem?_map, hx]; rfl) (by omega)
      refine w_nil ⟨(sh.eraseIdx j, d3), ?_, ?_⟩
      · dsimp only
        rw [eraseIdx_mapB]
        rfl
      · dsimp only
        rw [List.length_eraseIdx, if_pos hjl]; omega
    rintro ⟨sh, d3⟩ g3
    dsimp only at g3 ⊢
    apply w_frz rfl rfl
    obtain ⟨out, ⟨st, d4⟩, ec, hout, hs1, hs2, hs3⟩ := n_compS (enc := PyData.int) left (S := Sd × Dk3) (fun j out s => out = s.1.map pI ∧ s.1.length = j ∧ (∀ z ∈ s.1, z.1 ∈ left) ∧ ∀ z ∈ s.1, 0 ≤ z.2 ∧ z.2 ≤ lies)
        (fun s => [.io (dk s.2), .dat true (.int lies), .dat true (.int (n : Nat)), .dat true (dTT (snet (n + 1))), .dat true (dL left), .un, .own (.lst (sh.map PyData.int)), .un]) ([], d3)
        (vs := [7]) (g := gN 7) (it := iSeq (dVar 4)) (t := PD.tYes) (e := dFrz (dTup (dAc (dFrz (dVar 7)) (dAc (eX (xCallC u_qtake 0 [] (dAc (dVar 0) (dAc (dAdd (dVar 1) (dC (.int 1))) dA0)))) dA0)))) (Γ := [.io (dk d3), .dat true (.int lies), .dat true (.int (n : Nat)), .dat true (dTT (snet (n + 1))), .dat true (dL left), .un, .own (.lst (sh.map PyData.int)), .un])
        (i_seqL (fr := true) (e_var rfl)) (by omega) rfl ⟨rfl, rfl, by simp, by simp⟩ (by
          rintro j x out ⟨s, d4⟩ hx ⟨rfl, k1, k2, k3⟩
          dsimp only at k1 k2 k3 ⊢
          obtain ⟨q, d5, hq, q0, q1⟩ := take_t d4 (lies + 1) (by omega) (by omega)
          have hxm : x ∈ left := List.mem_of_getElem? hx
          refine ⟨_, rfl, _, _, rfl, fun _ => ⟨_, _, (s ++ [(x, q)], d5), e_frz (e_tup (a_cons (e_frz (e_var rfl)) (a_cons (e_x (x_callE (a_cons (e_varI rfl) (a_cons (e_add (e_var rfl) e_C) a_nil)) rfl rfl rfl rfl hq rfl rfl) rfl) a_nil)) rfl rfl), rfl, ?_⟩, fun e => by cases e⟩
          refine ⟨by rw [List.map_append]; rfl, by simp; omega, fun z hz => ?_, fun z hz => ?_⟩
          · rcases List.mem_append.mp hz with h | h
            · exact k2 z h
            · rw [List.mem_singleton.mp h]; exact hxm
          · rcases List.mem_append.mp hz with h | h
            · exact k3 z h
            · rw [List.mem_singleton.mp h]; dsimp only; omega)
    dsimp only at hout hs1 hs2 hs3
    subst hout
    obtain ⟨pc, d5, hpc, hpok⟩ := prices_b d4 (snet (n + 1)) (by omega)
    apply w_ret
    · exact e_tup (a_cons (e_frz (e_var rfl)) (a_cons (e_B (a_cons (e_ofN ec) a_nil) (k_tup rfl)) (a_cons (e_frzO (e_varO rfl) rfl) (a_cons (e_frz (e_var rfl)) (a_cons (e_x (x_callE (a_cons (e_varI rfl) (a_cons (e_var rfl) a_nil)) rfl rfl rfl rfl hpc rfl rfl) (rsF_pc pc)) a_nil))))) rfl rfl
    refine ⟨_, _, rfl, rfl, snet (n + 1), st, sh, pc, d5, rfl, snet_ok _, by omega, fun e => ?_, fun z hz => ?_, hs3, ⟨hl0, hl3⟩, ⟨n, hl, by omega, hn2⟩, by omega, hpok⟩
    · subst e
      have h6 : left.length = 0 := hs1.symm
      omega
    · have := g2 _ (hs2 z hz)
      omega
  obtain ⟨z, e, net, st, shut, pc, d', rfl, h⟩ := key
  exact ⟨net, st, shut, pc, d', e, h⟩
end PDW
set_option linter.all false
set_option maxRecDepth 100000
set_option maxHeartbeats 0
set_option autoImplicit false
namespace PDW
open PySem L2 PD
abbrev iv (a b : Int) : List (Int × Int) := (rng a b).map fun m => (m, 0)
theorem tab_b (lies : Int) (h0 : 0 ≤ lies) (h3 : lies ≤ 3) : ∃ (n : Nat) (b : Int), atI [PyData.int 10, .int 6, .int 4, .int 3] lies = some (.int (n : Nat)) ∧ atI [PyData.int 7, .int 4, .int 3, .int 2] lies = some (.int b) ∧ 3 ≤ n ∧ n ≤ 10 ∧ 1 ≤ b ∧ b ≤ 7 ∧ b ≤ (n : Int) ∧ (lies = 0 → n = 10) := by
  have : lies = 0 ∨ lies = 1 ∨ lies = 2 ∨ lies = 3 := by omega
  rcases this with rfl | rfl | rfl | rfl
  · exact ⟨10, 7, rfl, rfl, by omega, by omega, by omega, by omega, by omega, fun _ => rfl⟩
  · exact ⟨6, 4, rfl, rfl, by omega, by omega, by omega, by omega, by omega, fun h => by omega⟩
  · exact ⟨4, 3, rfl, rfl, by omega, by omega, by omega, by omega, by omega, fun h => by omega⟩
  · exact ⟨3, 2, rfl, rfl, by omega, by omega, by omega, by omega, by omega, fun h => by omega⟩
theorem drawn_b (d : Dk3) : ∃ (net : List (List Int)) (st : Sd) (shut : List Int) (lies : Int) (pc : Option (List Int)) (d' : Dk3), u_qdrawn [.c (dk d)] = .val (.d (qD net st shut lies pc), [.io (dk d')]) ∧ QOk net st shut lies pc := by
  have key : Ok (u_qdrawn [.c (dk d)]) fun z => ∃ (net : List (List Int)) (st : Sd) (shut : List Int) (lies : Int) (pc : Option (List Int)) (d' : Dk3), z = (.d (qD net st shut lies pc), [.io (dk d')]) ∧ QOk net st shut lies pc := by
    refine ok_run rfl ?_
    unfold b_qdrawn
    obtain ⟨net, d1, hd1, hN, hn1, hn2⟩ := net_t d 12 (by decide) (by decide)
    obtain ⟨r, d2, hr, r0, r1⟩ := take_t d1 6 (by decide) (by decide)
    obtain ⟨lies, hlt, hl0, hl3⟩ : ∃ lies : Int, atI [PyData.int 0, .int 0, .int 1, .int 1, .int 2, .int 3] r = some (.int lies) ∧ 0 ≤ lies ∧ lies ≤ 3 := by
      have : r = 0 ∨ r = 1 ∨ r = 2 ∨ r = 3 ∨ r = 4 ∨ r = 5 := by omega
      rcases this with rfl | rfl | rfl | rfl | rfl | rfl
      · exact ⟨0, rfl, by omega, by omega⟩
      · exact ⟨0, rfl, by omega, by omega⟩
      · exact ⟨1, rfl, by omega, by omega⟩
      · exact ⟨1, rfl, by omega, by omega⟩
      · exact ⟨2, rfl, by omega, by omega⟩
      · exact ⟨3, rfl, by omega, by omega⟩
    obtain ⟨n, b, hl, hlb, n3, n10, b1, b7, bn, _⟩ := tab_b lies hl0 hl3
    apply w_set
    · exact e_x (x_callE (a_cons (e_varI rfl) (a_cons e_C a_nil)) rfl rfl rfl rfl hd1 rfl rfl) rfl
    apply w_set
    · exact e_frzT (e_ixL (e_ofN (n_lst (a_cons e_C (a_cons e_C (a_cons e_C (a_cons e_C (a_cons e_C (a_cons e_C a_nil)))))) rfl rfl)) (e_x (x_callE (a_cons (e_varI rfl) (a_cons e_C a_nil)) rfl rfl rfl rfl hr rfl rfl) rfl) hlt) rfl
    obtain ⟨way, d3, hw, w0, w1⟩ := take_t d2 16 (by decide) (by decide)
    apply w_set
    · exact e_x (x_callE (a_cons (e_varI rfl) (a_cons e_C a_nil)) rfl rfl rfl rfl hw rfl rfl) rfl
    clear hd1 hr hw
    apply w_ifB
    · exact t_tst (e_cmp (e_var rfl) e_C k_eqI)
    · intro _
      obtain ⟨net2, st, shut, pc, d4, hs, hq⟩ := star_b d3 lies n hl hl0 hl3 n3 n10
      and_intros
      apply w_retX
      · exact x_callE (a_cons (e_varI rfl) (a_cons (e_var rfl) a_nil)) rfl rfl rfl rfl hs rfl rfl
      exact ⟨_, _, rfl, rfl, net2, st, shut, lies, pc, d4, rfl, hq⟩
    intro _
    and_intros
    obtain ⟨st, d4, hst, hne, hsl, hsm, hsc⟩ := stand_b d3 net hn1 (by omega) lies b hlb ⟨b1, b7⟩ hl0 hl3
    apply w_set
    · exact e_x (x_callE (a_cons (e_varI rfl) (a_cons (e_var rfl) (a_cons (e_var rfl) a_nil))) rfl rfl rfl rfl hst rfl rfl) rfl
    clear hst
    refine w_ifJ (S := List (List Int) × Int × Sd × Dk3) (fun s => NetOk s.1 ∧ 1 ≤ s.1.length ∧ s.1.length ≤ 15 ∧ s.2.2.1 ≠ [] ∧ (∀ z ∈ s.2.2.1, 0 ≤ z.1 ∧ z.1 < (s.1.length : Int)) ∧ (∀ z ∈ s.2.2.1, 0 ≤ z.2 ∧ z.2 ≤ s.2.1) ∧ 0 ≤ s.2.1 ∧ s.2.1 ≤ 3 ∧ ∃ m : Nat, atI [PyData.int 10, .int 6, .int 4, .int 3] s.2.1 = some (.int (m : Nat)) ∧ s.2.2.1.length ≤ m ∧ m ≤ 10) (fun s => [.io (dk s.2.2.2), .dat true (dTT s.1), .dat true (.int s.2.1), .dat true (.int way), .dat true (sD s.2.2.1), .un, .un]) (t_tst (e_cmp (e_var rfl) e_C k_I)) ?_ ?_ ?_
    · intro _
      obtain ⟨q, d5, hq, q0, q1⟩ := take_t d4 10 (by decide) (by decide)
      obtain ⟨m, rfl⟩ : ∃ m : Nat, q = (m : Int) := ⟨q.toNat, by omega⟩
      have hnet := n_map (enc := PyData.int) (rng 0 (m : Nat)) (fun m => dT [m]) (vs := [6]) (g := gN 6) (it := iRange1 (eX (xCallC u_qtake 0 [] (dAc (dVar 0) (dAc (dC (.int 10)) dA0))))) (e := dFrz (dTup (dAc (dFrz (dVar 6)) dA0))) (Γ := [.io (dk d4), .dat true (dTT net), .dat true (.int lies), .dat true (.int way), .dat true (sD st), .un, .un]) (i_range1 (e_x (x_callE (a_cons (e_varI rfl) (a_cons e_C a_nil)) rfl rfl rfl rfl hq rfl rfl) rfl) (cRng_of (by decide) (by decide) (by omega) (by omega))) (by rw [rng_len]; omega) rfl fun m hm => ⟨_, rfl, rfl, e_frz (e_tup (a_cons (e_frz (e_var rfl)) a_nil) rfl rfl)⟩
      apply w_set
      · exact e_cat (e_tup (a_cons (e_tup a_nil rfl rfl) a_nil) rfl rfl) (e_B (a_cons (e_ofN hnet) a_nil) (k_tup rfl)) (szB_of (by rw [List.length_append, List.length_map, rng_len]; simp; omega))
      have e1 : PyData.tuple ([PyData.tuple []] ++ (rng 0 (m : Nat)).map fun m => dT [m]) = dTT (lnet (m + 1)) := by
        show _ = PyData.tuple (dT [] :: ((rng 0 (((m + 1 : Nat) : Int) - 1)).map fun m : Int => [m]).map fun r => dT r)
        rw [List.map_map, show (((m + 1 : Nat) : Int) - 1) = (m : Int) by omega]; rfl
      show W _ [.io (dk d5), .dat true (PyData.tuple ([PyData.tuple []] ++ (rng 0 (m : Nat)).map fun m => dT [m])), .dat true (.int lies), .dat true (.int way), .dat true (sD st), .un, .un] _
      rw [e1]
      have hln := lnet_len (n := m + 1) (by omega)
      apply w_set
      · exact e_C
      have hlE : dB kLen (dAc (dVar 1) dA0) [.io (dk d5), .dat true (dTT (lnet (m + 1))), .dat true (.int 0), .dat true (.int way), .dat true (sD st), .un, .un] = .val (.d true (.int ((m + 1 : Nat) : Int)), [.io (dk d5), .dat true (dTT (lnet (m + 1))), .dat true (.int 0), .dat true (.int way), .dat true (sD st), .un, .un]) := by
        have h := e_B (q := kLen) (a_cons (e_var (m := 1) (Γ := [.io (dk d5), .dat true (dTT (lnet (m + 1))), .dat true (.int 0), .dat true (.int way), .dat true (sD st), .un, .un]) rfl) a_nil) (k_lenJ (enc := fun e : List Int => dT e) (xs := lnet (m + 1)) rfl)
        rw [hln] at h
        exact h
      have hst := n_map (enc := PyData.int) (rng 0 ((m + 1 : Nat) : Int)) (fun m => pI (m, 0)) (vs := [6]) (g := gN 6) (it := iRange1 (dB kLen (dAc (dVar 1) dA0))) (e := dFrz (dTup (dAc (dFrz (dVar 6)) (dAc (dC (.int 0)) dA0)))) (Γ := [.io (dk d5), .dat true (dTT (lnet (m + 1))), .dat true (.int 0), .dat true (.int way), .dat true (sD st), .un, .un]) (i_range1 hlE (cRng_of (by decide) (by decide) (by omega) (by omega))) (by rw [rng_len]; omega) rfl fun m hm => ⟨_, rfl, rfl, e_frz (e_tup (a_cons (e_frz (e_var rfl)) (a_cons e_C a_nil)) rfl rfl)⟩
      have e2 : PyData.tuple ((rng 0 ((m + 1 : Nat) : Int)).map fun m => pI (m, 0)) = sD (iv 0 ((m + 1 : Nat) : Int)) := by
        show _ = PyData.tuple (((rng 0 ((m + 1 : Nat) : Int)).map fun m => (m, (0 : Int))).map pI)
        rw [List.map_map]; rfl
      apply w_set
      · exact e_B (a_cons (e_ofN hst) a_nil) (k_tup rfl)
      rw [e2]
      have hivl : (iv 0 ((m + 1 : Nat) : Int)).length = m + 1 := by rw [List.length_map, rng_len]; omega
      refine w_nil ⟨(lnet (m + 1), 0, iv 0 ((m + 1 : Nat) : Int), d5), rfl, lnet_ok _, by dsimp only; omega, by dsimp only; omega, fun e => ?_, fun z hz => ?_, fun z hz => ?_, by dsimp only; omega, by dsimp only; omega, 10, rfl, by dsimp only; omega, by omega⟩
      · have := congrArg List.length e
        dsimp only at this
        rw [hivl] at this
        simp at this
      · obtain ⟨x, hx, rfl⟩ := List.mem_map.mp hz
        have := rng_mem.mp hx
        dsimp only
        omega
      · obtain ⟨x, hx, rfl⟩ := List.mem_map.mp hz
        dsimp only
        omega
    · intro _
      exact w_nil ⟨(net, lies, st, d4), rfl, hN, hn1, by dsimp only; omega, hne, hsm, hsc, hl0, hl3, n, hl, by dsimp only; omega, n10⟩
    rintro ⟨net2, lie2, st2, d6⟩ ⟨g1, g2, g3, g4, g5, g6, g7, g8, g9⟩
    dsimp only at g1 g2 g3 g4 g5 g6 g7 g8 g9 ⊢
    obtain ⟨shut, d7, hsh, hshl⟩ := barred_b d6 net2 (by omega)
    apply w_set
    · exact e_x (x_callE (a_cons (e_varI rfl) (a_cons (e_var rfl) a_nil)) rfl rfl rfl rfl hsh rfl rfl) rfl
    obtain ⟨pc, d8, hpc, hpok⟩ := prices_b d7 net2 (by omega)
    apply w_ret
    · exact e_tup (a_cons (e_frz (e_var rfl)) (a_cons (e_frz (e_var rfl)) (a_cons (e_frz (e_var rfl)) (a_cons (e_frz (e_var rfl)) (a_cons (e_x (x_callE (a_cons (e_varI rfl) (a_cons (e_var rfl) a_nil)) rfl rfl rfl rfl hpc rfl rfl) (rsF_pc pc)) a_nil))))) rfl rfl
    exact ⟨_, _, rfl, rfl, net2, st2, shut, lie2, pc, d8, rfl, g1, ⟨g2, g3⟩, g4, g5, g6, ⟨g7, g8⟩, g9, by omega, hpok⟩
  obtain ⟨z, e, net, st, shut, lies, pc, d', rfl, h⟩ := key
  exact ⟨net, st, shut, lies, pc, d', e, h⟩
end PDW
set_option linter.all false
set_option maxRecDepth 100000
set_option maxHeartbeats 0
set_option autoImplicit false
namespace PDW
open PySem L2 PD
def psO (n : Nat) : Option (List Int) → List Int
  | none => List.replicate n 1
  | some ps => ps
theorem prD_pc {n : Nat} {pc : Option (List Int)} (h : PcOk n pc) : PrD n (pcD pc) (psO n pc) := by
  cases pc with
  | none => exact PrD.n
  | some ps => exact PrD.l ps (h ps rfl).1
end PDW
set_option linter.all false
set_option maxRecDepth 100000
set_option maxHeartbeats 0
set_option autoImplicit false
namespace PDW
open PySem L2 PD
open PySem.W (dataLt dataLe)
theorem bw_val {B : Sd → Int} {pr : Int → Int} {ws : List Wy} (h : ws ≠ []) : ∃ w ∈ ws, bw B pr ws = (pr w.1 + max2 (B w.2.1) (B w.2.2), some w.1) := by
  have key : ∀ (ws : List Wy) (f : Bv), (ws.foldl (bwS B pr) f = f ∨ ∃ w ∈ ws, ws.foldl (bwS B pr) f = (pr w.1 + max2 (B w.2.1) (B w.2.2), some w.1)) := by
    intro ws
    induction ws with
    | nil => intro f; exact .inl rfl
    | cons w r ih =>
      intro f
      rw [List.foldl_cons]
      have hb : bwS B pr f w = f ∨ bwS B pr f w = (pr w.1 + max2 (B w.2.1) (B w.2.2), some w.1) := by
        unfold bwS
        split
        · exact .inr rfl
        · exact .inl rfl
      rcases ih (bwS B pr f w) with h | ⟨w', hw', h⟩
      · rcases hb with hb | hb
        · exact .inl (h.trans hb)
        · exact .inr ⟨w, by simp, h.trans hb⟩
      · exact .inr ⟨w', by simp [hw'], h⟩
  rcases key ws (0, none) with h1 | h1
  · have := (@bw_mem B pr ws).2
    unfold bw at this
    rw [h1] at this
    exact absurd (this.mp rfl) h
  · exact h1
theorem room_le {lies : Int} {st : Sd} (h0 : 0 ≤ lies) (h : ∀ z ∈ st, 0 ≤ z.2) : room lies st ≤ (st.length : Int) * (lies + 1) := by
  induction st with
  | nil => simp [room]
  | cons z r ih =>
    have h1 := h z (by simp)
    have h2 := ih fun y hy => h y (by simp [hy])
    rw [room, List.length_cons]
    push_cast
    rw [Int.add_mul]
    omega
theorem q_facts {net : List (List Int)} {st : Sd} {shut : List Int} {lies : Int} {pc : Option (List Int)} (Q : QOk net st shut lies pc) {bs : List Int} (hbl : bs.length = net.length) : ∃ m : Nat, atI [PyData.int 10, .int 6, .int 4, .int 3] lies = some (.int (m : Nat)) ∧ st.length ≤ m ∧ BkOk net bs shut lies (sbN lies st) net.length ∧ st ∈ sbN lies st ∧ room lies st ≤ 12 := by
  obtain ⟨m, hl, hsl, hm10⟩ := Q.most
  obtain ⟨l0, l3⟩ := Q.lie
  have hlen := Q.len.2
  have hcases : (lies = 0 ∧ m = 10) ∨ (lies = 1 ∧ m = 6) ∨ (lies = 2 ∧ m = 4) ∨ (lies = 3 ∧ m = 3) := by
    have : lies = 0 ∨ lies = 1 ∨ lies = 2 ∨ lies = 3 := by omega
    rcases this with rfl | rfl | rfl | rfl
    · left; refine ⟨rfl, ?_⟩
      have : (10 : Int) = m := by have h : some (PyData.int 10) = some (PyData.int (m : Nat)) := hl; exact PyData.int.inj (Option.some.inj h)
      omega
    · right; left; refine ⟨rfl, ?_⟩
      have : (6 : Int) = m := by have h : some (PyData.int 6) = some (PyData.int (m : Nat)) := hl; exact PyData.int.inj (Option.some.inj h)
      omega
    · right; right; left; refine ⟨rfl, ?_⟩
      have : (4 : Int) = m := by have h : some (PyData.int 4) = some (PyData.int (m : Nat)) := hl; exact PyData.int.inj (Option.some.inj h)
      omega
    · right; right; right; refine ⟨rfl, ?_⟩
      have : (3 : Int) = m := by have h : some (PyData.int 3) = some (PyData.int (m : Nat)) := hl; exact PyData.int.inj (Option.some.inj h)
      omega
  have hrm : room lies st ≤ 12 := by
    have h1 := room_le l0 fun z hz => (Q.cnt z hz).1
    rcases hcases with ⟨rfl, rfl⟩ | ⟨rfl, rfl⟩ | ⟨rfl, rfl⟩ | ⟨rfl, rfl⟩ <;> omega
  have hz : ∃ k : Nat, lies + 2 = (k : Int) ∧ 1 ≤ k ∧ k ^ st.length ≤ 1024 := by
    rcases hcases with ⟨rfl, rfl⟩ | ⟨rfl, rfl⟩ | ⟨rfl, rfl⟩ | ⟨rfl, rfl⟩
    · exact ⟨2, rfl, by omega, Nat.le_trans (Nat.pow_le_pow_right (by omega) hsl) (by decide)⟩
    · exact ⟨3, rfl, by omega, Nat.le_trans (Nat.pow_le_pow_right (by omega) hsl) (by decide)⟩
    · exact ⟨4, rfl, by omega, Nat.le_trans (Nat.pow_le_pow_right (by omega) hsl) (by decide)⟩
    · exact ⟨5, rfl, by omega, Nat.le_trans (Nat.pow_le_pow_right (by omega) hsl) (by decide)⟩
  obtain ⟨k, hk, hk1, hkp⟩ := hz
  have hsz : (2 * net.length + 1) * k ^ st.length < 900000 := by
    have h2 : (2 * net.length + 1) * k ^ st.length ≤ 31 * 1024 := Nat.mul_le_mul (by omega) hkp
    omega
  obtain ⟨O, hO⟩ := bkOk_small net bs shut hbl lies st Q.ne (by omega) Q.rng Q.cnt k (by omega) hk1 hsz
  exact ⟨m, hl, hsl, O, hO, hrm⟩
end PDW
set_option linter.all false
set_option maxRecDepth 100000
set_option maxHeartbeats 0
set_option autoImplicit false
namespace PDW
open PySem L2 PD
section
variable {net : List (List Int)} {bs shut : List Int} {lies : Int}
theorem usf_iff (hbl : bs.length = net.length) {s : Sd} {k : Int} : k ∈ usf net.length bs s shut ↔ ∃ (j : Nat) (v : Int), k = (j : Int) ∧ bs[j]? = some v ∧ k ∉ shut ∧ (∃ z ∈ s, inb v z.1 = true) ∧ ∃ z ∈ s, inb v z.1 = false := by
  unfold usf
  rw [List.mem_filter]
  constructor
  · rintro ⟨h1, h2⟩
    have hk2 := rng_mem.mp h1
    obtain ⟨j, rfl⟩ : ∃ j : Nat, k = (j : Int) := ⟨k.toNat, by omega⟩
    obtain ⟨v, hv⟩ : ∃ b, bs[j]? = some b := ⟨_, List.getElem?_eq_getElem (by omega)⟩
    simp only [Bool.and_eq_true, Bool.not_eq_true', decide_eq_true_eq, decide_eq_false_iff_not, cmc_pos hv, cmc_lt hv] at h2
    exact ⟨j, v, rfl, hv, h2.1, h2.2.1, h2.2.2⟩
  · rintro ⟨j, v, rfl, hv, h1, h2, h3⟩
    have hj := (List.getElem?_eq_some_iff.mp hv).1
    refine ⟨rng_mem.mpr ⟨by omega, by omega⟩, ?_⟩
    simp only [Bool.and_eq_true, Bool.not_eq_true', decide_eq_true_eq, decide_eq_false_iff_not, cmc_pos hv, cmc_lt hv]
    exact ⟨h1, h2, h3⟩
theorem wyF_iff (hbl : bs.length = net.length) {s : Sd} {w : Wy} : w ∈ wyF net.length bs shut lies s ↔ ∃ (j : Nat) (v : Int), bs[j]? = some v ∧ (j : Int) ∉ shut ∧ (∃ z ∈ s, inb v z.1 = true) ∧ (∃ z ∈ s, inb v z.1 = false) ∧ w = ((j : Int), behF v "bad" lies s, behF v "good" lies s) := by
  unfold wyF
  rw [List.mem_map]
  constructor
  · rintro ⟨k, hk, rfl⟩
    obtain ⟨j, v, rfl, hv, h1, h2, h3⟩ := (usf_iff hbl).mp hk
    exact ⟨j, v, hv, h1, h2, h3, by rw [Int.toNat_natCast, hv]; rfl⟩
  · rintro ⟨j, v, hv, h1, h2, h3, rfl⟩
    exact ⟨(j : Int), (usf_iff hbl).mpr ⟨j, v, rfl, hv, h1, h2, h3⟩, by rw [Int.toNat_natCast, hv]; rfl⟩
theorem bw_le {B : Sd → Int} {pr : Int → Int} {ws : List Wy} : ∀ w ∈ ws, (bw B pr ws).1 ≤ pr w.1 + max2 (B w.2.1) (B w.2.2) := by
  have key : ∀ (ws : List Wy) (f : Bv), (f.2 ≠ none → (ws.foldl (bwS B pr) f).1 ≤ f.1) ∧ ∀ w ∈ ws, (ws.foldl (bwS B pr) f).1 ≤ pr w.1 + max2 (B w.2.1) (B w.2.2) := by
    intro ws
    induction ws with
    | nil => intro f; exact ⟨fun _ => Int.le_refl _, fun w h => by cases h⟩
    | cons u r ih =>
      intro f
      rw [List.foldl_cons]
      have hs : (bwS B pr f u).2 ≠ none ∧ (bwS B pr f u).1 ≤ pr u.1 + max2 (B u.2.1) (B u.2.2) ∧ (f.2 ≠ none → (bwS B pr f u).1 ≤ f.1) := by
        unfold bwS
        split
        · next h =>
          refine ⟨by simp, Int.le_refl _, fun hf => ?_⟩
          rcases h with h | h
          · exact absurd h hf
          · exact Int.le_of_lt h
        · next h =>
          rw [not_or] at h
          exact ⟨h.1, by omega, fun _ => Int.le_refl _⟩
      obtain ⟨i1, i2⟩ := ih (bwS B pr f u)
      refine ⟨fun hf => Int.le_trans (i1 hs.1) (hs.2.2 hf), fun w hw => ?_⟩
      rcases List.mem_cons.mp hw with rfl | hw
      · exact Int.le_trans (i1 hs.1) hs.2.1
      · exact i2 w hw
  exact fun w hw => (key ws (0, none)).2 w hw
theorem max2_mono {a b c d : Int} (h1 : a ≤ c) (h2 : b ≤ d) : max2 a b ≤ max2 c d := by
  unfold max2; split <;> split <;> omega
theorem max2_ge (a b : Int) : a ≤ max2 a b ∧ b ≤ max2 a b := by
  unfold max2; split <;> omega
structure Vf (net : List (List Int)) (bs shut : List Int) (lies : Int) (L : List Sd) (pr : Int → Int) (V : Sd → Int) : Prop where
  nil : ∀ s ∈ L, wyF net.length bs shut lies s = [] → V s = 0
  le : ∀ s ∈ L, ∀ w ∈ wyF net.length bs shut lies s, V s ≤ pr w.1 + max2 (V w.2.1) (V w.2.2)
  at' : ∀ s ∈ L, wyF net.length bs shut lies s ≠ [] → ∃ w ∈ wyF net.length bs shut lies s, V s = pr w.1 + max2 (V w.2.1) (V w.2.2)
theorem vf_bv {L : List Sd} {U : Nat} (hbl : bs.length = net.length) (O : BkOk net bs shut lies L U) (pr : Int → Int) : Vf net bs shut lies L pr fun s => (bv (wyF net.length bs shut lies) pr lies s).1 := by
  have E := fun (s : Sd) (hs : s ∈ L) => bv_eq (pr := pr) O.cl.1 (dwn_of hbl O.ml) hs
  refine ⟨fun s hs h => ?_, fun s hs w hw => ?_, fun s hs h => ?_⟩
  · show (bv _ pr lies s).1 = 0
    rw [E s hs, h]; rfl
  · show (bv _ pr lies s).1 ≤ _
    rw [E s hs]
    exact bw_le w hw
  · obtain ⟨w, hw, e⟩ := bw_val (B := fun t => (bv (wyF net.length bs shut lies) pr lies t).1) (pr := pr) h
    refine ⟨w, hw, ?_⟩
    show (bv _ pr lies s).1 = _
    rw [E s hs, e]
variable {L : List Sd} {U : Nat}
theorem nx_of {w : Wy} {s : Sd} (hw : w ∈ wyF net.length bs shut lies s) : w.2.1 ∈ nx (wyF net.length bs shut lies s) ∧ w.2.2 ∈ nx (wyF net.length bs shut lies s) := ⟨nx_mem.mpr ⟨w, hw, .inl rfl⟩, nx_mem.mpr ⟨w, hw, .inr rfl⟩⟩
theorem room_ind (hbl : bs.length = net.length) (O : BkOk net bs shut lies L U) {P : Sd → Prop} (h : ∀ s ∈ L, (∀ t ∈ nx (wyF net.length bs shut lies s), t ∈ L ∧ P t) → P s) : ∀ s ∈ L, P s := by
  have D := dwn_of hbl O.ml (shut := shut)
  have key : ∀ (n : Nat) (s : Sd), s ∈ L → room lies s < (n : Int) → P s := by
    intro n
    induction n with
    | zero => intro s hs hr; have := (D s hs).1; omega
    | succ n ih =>
      intro s hs hr
      refine h s hs fun t ht => ?_
      have h1 := (D s hs).2 t ht
      have h2 := O.cl.1 s hs t ht
      exact ⟨h2, ih t h2 (by omega)⟩
  intro s hs
  exact key ((room lies s).toNat + 1) s hs (by have := (D s hs).1; omega)
variable {pr pr' : Int → Int} {V V' : Sd → Int}
theorem vf_nn (hbl : bs.length = net.length) (O : BkOk net bs shut lies L U) (hV : Vf net bs shut lies L pr V) (hp : ∀ k, 0 ≤ pr k) : ∀ s ∈ L, 0 ≤ V s :=
  room_ind hbl O fun s hs ih => by
    by_cases e : wyF net.length bs shut lies s = []
    · rw [hV.nil s hs e]; exact Int.le_refl _
    · obtain ⟨w, hw, h⟩ := hV.at' s hs e
      have h1 := (ih _ (nx_of hw).1).2
      have h2 := (max2_ge (V w.2.1) (V w.2.2)).1
      have h3 := hp w.1
      omega
theorem vf_pr (hbl : bs.length = net.length) (O : BkOk net bs shut lies L U) (hV : Vf net bs shut lies L pr V) (hV' : Vf net bs shut lies L pr' V') (hp : ∀ k : Nat, k < net.length → pr (k : Int) ≤ pr' (k : Int)) : ∀ s ∈ L, V s ≤ V' s :=
  room_ind hbl O fun s hs ih => by
    by_cases e : wyF net.length bs shut lies s = []
    · rw [hV.nil s hs e, hV'.nil s hs e]; exact Int.le_refl _
    · obtain ⟨w, hw, h⟩ := hV'.at' s hs e
      have h1 := hV.le s hs w hw
      have h2 := max2_mono (ih _ (nx_of hw).1).2 (ih _ (nx_of hw).2).2
      obtain ⟨j, v, hv, _, _, _, rfl⟩ := (wyF_iff hbl).mp hw
      have h3 := hp j (by have := (List.getElem?_eq_some_iff.mp hv).1; omega)
      dsimp only at *
      omega
theorem vf_zero (hbl : bs.length = net.length) (O : BkOk net bs shut lies L U) (hV : Vf net bs shut lies L pr V) (hp : ∀ k : Nat, k < net.length → 1 ≤ pr (k : Int)) (h0 : ∀ k, 0 ≤ pr k) {s : Sd} (hs : s ∈ L) : V s = 0 ↔ wyF net.length bs shut lies s = [] := by
  refine ⟨fun h => ?_, hV.nil s hs⟩
  refine Classical.byContradiction fun e => ?_
  obtain ⟨w, hw, h1⟩ := hV.at' s hs e
  have n1 := vf_nn hbl O hV h0 _ (O.cl.1 s hs _ (nx_of hw).1)
  have n2 := (max2_ge (V w.2.1) (V w.2.2)).1
  obtain ⟨j, v, hv, _, _, _, rfl⟩ := (wyF_iff hbl).mp hw
  have h3 := hp j (by have := (List.getElem?_eq_some_iff.mp hv).1; omega)
  dsimp only at *
  omega
theorem vf_mul (hbl : bs.length = net.length) (O : BkOk net bs shut lies L U) {p : Int} (hp0 : 1 ≤ p) (hV : Vf net bs shut lies L pr V) (hV' : Vf net bs shut lies L pr' V') (hp : ∀ k : Nat, k < net.length → pr (k : Int) = 1 ∧ pr' (k : Int) = p) : ∀ s ∈ L, V' s = p * V s :=
  room_ind hbl O fun s hs ih => by
    have mx : ∀ a b : Int, max2 (p * a) (p * b) = p * max2 a b := fun a b => by
      have hle : ∀ x y : Int, x ≤ y ↔ p * x ≤ p * y := fun x y => ⟨fun h => Int.mul_le_mul_of_nonneg_left h (by omega), fun h => Int.le_of_mul_le_mul_left h (by omega)⟩
      have hlt : ∀ x y : Int, x < y ↔ p * x < p * y := fun x y => by
        rw [← Int.not_le, ← Int.not_le, hle]
      unfold max2
      split <;> split <;> first | rfl | (next h1 h2 => simp only [← hlt, ← hle] at h1; omega)
    have cost : ∀ w ∈ wyF net.length bs shut lies s, pr' w.1 + max2 (V' w.2.1) (V' w.2.2) = p * (pr w.1 + max2 (V w.2.1) (V w.2.2)) := fun w hw => by
      rw [(ih _ (nx_of hw).1).2, (ih _ (nx_of hw).2).2, mx, Int.mul_add]
      obtain ⟨j, v, hv, _, _, _, rfl⟩ := (wyF_iff hbl).mp hw
      have h3 := hp j (by have := (List.getElem?_eq_some_iff.mp hv).1; omega)
      dsimp only
      rw [h3.1, h3.2, Int.mul_one]
    by_cases e : wyF net.length bs shut lies s = []
    · rw [hV.nil s hs e, hV'.nil s hs e, Int.mul_zero]
    · obtain ⟨w, hw, h⟩ := hV.at' s hs e
      obtain ⟨u, hu, h'⟩ := hV'.at' s hs e
      have l1 := hV'.le s hs w hw
      have l2 := hV.le s hs u hu
      rw [cost w hw, ← h] at l1
      rw [cost u hu] at h'
      have l3 := Int.mul_le_mul_of_nonneg_left l2 (show 0 ≤ p by omega)
      omega
theorem sbs_beh {v : Int} {ans : Str} : ∀ {t s : Sd}, s ∈ sbs lies t → behF v ans lies s ∈ sbs lies (behF v ans lies t)
  | [], s, h => by
    have : s = [] := by simpa [sbs] using h
    subst this
    simp [behF, sbs]
  | z :: t, s, h => by
    rw [behF_cons]
    have hb := b2n_nn (spk v ans z.1)
    rcases sbs_cons.mp h with h | ⟨c, u, h1, h2, h3, rfl⟩
    · have i := sbs_beh (v := v) (ans := ans) h
      by_cases q : z.2 + b2n (spk v ans z.1) ≤ lies
      · rw [if_pos q]; exact sbs_cons.mpr (.inl i)
      · rw [if_neg q]; exact i
    · have i := sbs_beh (v := v) (ans := ans) h3
      rw [behF_cons]
      dsimp only
      by_cases q : c + b2n (spk v ans z.1) ≤ lies
      · rw [if_pos q, if_pos (by omega)]
        exact sbs_cons.mpr (.inr ⟨_, _, by dsimp only; omega, q, i, rfl⟩)
      · rw [if_neg q]
        by_cases q2 : z.2 + b2n (spk v ans z.1) ≤ lies
        · rw [if_pos q2]; exact sbs_cons.mpr (.inl i)
        · rw [if_neg q2]; exact i
theorem beh_same {v : Int} {ans : Str} {s : Sd} (h : ∀ z ∈ s, spk v ans z.1 = false) (hl : ∀ z ∈ s, z.2 ≤ lies) : behF v ans lies s = s := by
  induction s with
  | nil => rfl
  | cons z s ih =>
    rw [behF_cons, h z (by simp), ih (fun y hy => h y (by simp [hy])) fun y hy => hl y (by simp [hy])]
    have := hl z (by simp)
    rw [show b2n false = 0 from rfl, Int.add_zero, if_pos this]
    rfl
theorem spk_bad {v m : Int} : spk v "bad" m = !inb v m := by unfold spk; rw [if_pos rfl]
theorem spk_good {v m : Int} : spk v "good" m = inb v m := by
  unfold spk
  rw [if_neg (by decide), decide_eq_true (by rfl), Bool.true_and]
theorem sbs_of {t s : Sd} (h : s ∈ sbs lies t) {z : Int × Int} (hz : z ∈ s) : ∃ y ∈ t, y.1 = z.1 := ((sbs_mem h).2 z hz).2
theorem vf_sub (hbl : bs.length = net.length) (O : BkOk net bs shut lies L U) (hV : Vf net bs shut lies L pr V) (hp : ∀ k, 0 ≤ pr k) : ∀ t ∈ L, ∀ s ∈ L, s ∈ sbs lies t → V s ≤ V t :=
  room_ind hbl O fun t ht ih s hs hst => by
    by_cases e : wyF net.length bs shut lies s = []
    · rw [hV.nil s hs e]; exact vf_nn hbl O hV hp t ht
    · obtain ⟨w0, hw0⟩ := List.exists_mem_of_ne_nil _ e
      have up : ∀ {j : Nat} {v : Int}, bs[j]? = some v → (j : Int) ∉ shut → (∃ z ∈ s, inb v z.1 = true) → (∃ z ∈ s, inb v z.1 = false) → ((j : Int), behF v "bad" lies t, behF v "good" lies t) ∈ wyF net.length bs shut lies t := fun {j v} hv h1 ⟨a, ha, ea⟩ ⟨b, hb, eb⟩ => by
        obtain ⟨a', ha', fa⟩ := sbs_of hst ha
        obtain ⟨b', hb', fb⟩ := sbs_of hst hb
        exact (wyF_iff hbl).mpr ⟨j, v, hv, h1, ⟨a', ha', by rw [fa]; exact ea⟩, ⟨b', hb', by rw [fb]; exact eb⟩, rfl⟩
      have e2 : wyF net.length bs shut lies t ≠ [] := by
        obtain ⟨j, v, hv, h1, h2, h3, _⟩ := (wyF_iff hbl).mp hw0
        exact List.ne_nil_of_mem (up hv h1 h2 h3)
      obtain ⟨w, hw, h⟩ := hV.at' t ht e2
      have hw2 := hw
      obtain ⟨j, v, hv, h1, h2, h3, rfl⟩ := (wyF_iff hbl).mp hw
      dsimp only at h
      have hm := max2_ge (V (behF v "bad" lies t)) (V (behF v "good" lies t))
      have hpj := hp (j : Int)
      have i1 := (ih _ (nx_of hw2).1).2
      have i2 := (ih _ (nx_of hw2).2).2
      by_cases c1 : ∃ z ∈ s, inb v z.1 = true
      · by_cases c2 : ∃ z ∈ s, inb v z.1 = false
        · have hws : ((j : Int), behF v "bad" lies s, behF v "good" lies s) ∈ wyF net.length bs shut lies s := (wyF_iff hbl).mpr ⟨j, v, hv, h1, c1, c2, rfl⟩
          have l := hV.le s hs _ hws
          have m := max2_mono (i1 _ (O.cl.1 s hs _ (nx_of hws).1) (sbs_beh hst)) (i2 _ (O.cl.1 s hs _ (nx_of hws).2) (sbs_beh hst))
          dsimp only at l m
          omega
        · have q : behF v "bad" lies s = s := beh_same (fun z hz => by
            rw [spk_bad]
            cases hi : inb v z.1 with
            | true => rfl
            | false => exact absurd ⟨z, hz, hi⟩ c2) (O.ml s hs)
          have l := i1 s hs (by have := sbs_beh (v := v) (ans := "bad") hst; rw [q] at this; exact this)
          dsimp only at l
          omega
      · have q : behF v "good" lies s = s := beh_same (fun z hz => by
          rw [spk_good]
          cases hi : inb v z.1 with
          | false => rfl
          | true => exact absurd ⟨z, hz, hi⟩ c1) (O.ml s hs)
        have l := i2 s hs (by have := sbs_beh (v := v) (ans := "good") hst; rw [q] at this; exact this)
        dsimp only at l
        omega
def rwB (bs shut : List Int) (m : Int) : List Bool := ((rng 0 (bs.length : Nat)).filter fun k => !decide (k ∈ shut)).map fun k => inb (bs[k.toNat]?.getD 0) m
theorem rw_at {a b : Int} : rwB bs shut a = rwB bs shut b ↔ ∀ (j : Nat) (v : Int), bs[j]? = some v → (j : Int) ∉ shut → inb v a = inb v b := by
  unfold rwB
  rw [List.map_inj_left]
  constructor
  · intro h j v hv hs
    have hj := (List.getElem?_eq_some_iff.mp hv).1
    have := h (j : Int) (List.mem_filter.mpr ⟨rng_mem.mpr ⟨by omega, by omega⟩, by simp [hs]⟩)
    rw [Int.toNat_natCast, hv] at this
    exact this
  · intro h k hk
    obtain ⟨h1, h2⟩ := List.mem_filter.mp hk
    have hk2 := rng_mem.mp h1
    obtain ⟨j, rfl⟩ : ∃ j : Nat, k = (j : Int) := ⟨k.toNat, by omega⟩
    obtain ⟨v, hv⟩ : ∃ b, bs[j]? = some b := ⟨_, List.getElem?_eq_getElem (by omega)⟩
    rw [Int.toNat_natCast, hv]
    exact h j v hv (by simpa using h2)
theorem wy_alike (hbl : bs.length = net.length) {s : Sd} : wyF net.length bs shut lies s = [] ↔ ∀ a ∈ s, ∀ b ∈ s, rwB bs shut a.1 = rwB bs shut b.1 := by
  constructor
  · intro h a ha b hb
    refine rw_at.mpr fun j v hv hs => ?_
    have no : ∀ w, w ∉ wyF net.length bs shut lies s := fun w hw => by rw [h] at hw; cases hw
    cases e1 : inb v a.1 with
    | true =>
      cases e2 : inb v b.1 with
      | true => rfl
      | false => exact (no _ ((wyF_iff hbl).mpr ⟨j, v, hv, hs, ⟨a, ha, e1⟩, ⟨b, hb, e2⟩, rfl⟩)).elim
    | false =>
      cases e2 : inb v b.1 with
      | false => rfl
      | true => exact (no _ ((wyF_iff hbl).mpr ⟨j, v, hv, hs, ⟨b, hb, e2⟩, ⟨a, ha, e1⟩, rfl⟩)).elim
  · intro h
    refine Classical.byContradiction fun e => ?_
    obtain ⟨w, hw⟩ := List.exists_mem_of_ne_nil _ e
    obtain ⟨j, v, hv, hs, ⟨a, ha, ea⟩, ⟨b, hb, eb⟩, _⟩ := (wyF_iff hbl).mp hw
    have := rw_at.mp (h a ha b hb) j v hv hs
    rw [ea, eb] at this
    cases this
theorem len_split {α : Type} (p : α → Bool) : ∀ l : List α, l.length = (l.filter p).length + (l.filter fun x => !p x).length
  | [] => rfl
  | x :: l => by
    have ih := len_split p l
    cases h : p x <;> simp [List.filter_cons, h, ih] <;> omega
theorem nodup_one {α : Type} {K : List α} (h : K.Nodup) (ha : ∀ x ∈ K, ∀ y ∈ K, x = y) : K.length ≤ 1 := by
  match K, h with
  | [], _ => exact Nat.zero_le _
  | [_], _ => exact Nat.le_refl _
  | x :: y :: r, h =>
    have e := ha x (by simp) y (by simp)
    subst e
    simp at h
theorem vf_cls (hbl : bs.length = net.length) (O : BkOk net bs shut lies L U) (hV : Vf net bs shut lies L pr V) (hp : ∀ k : Nat, k < net.length → pr (k : Int) = 1) (h0 : ∀ k, 0 ≤ pr k) : ∀ s ∈ L, ∀ K : List (List Bool), K.Nodup → (∀ x ∈ K, ∃ z ∈ s, x = rwB bs shut z.1) → K.length ≤ 2 ^ (V s).toNat :=
  room_ind hbl O fun s hs ih K hK hx => by
    by_cases e : wyF net.length bs shut lies s = []
    · have := nodup_one hK fun x hx1 y hy1 => by
        obtain ⟨a, ha, rfl⟩ := hx x hx1
        obtain ⟨b, hb, rfl⟩ := hx y hy1
        exact (wy_alike hbl).mp e a ha b hb
      exact Nat.le_trans this (Nat.one_le_two_pow)
    · obtain ⟨w, hw, h⟩ := hV.at' s hs e
      have hw2 := hw
      obtain ⟨j, v, hv, h1, h2, h3, rfl⟩ := (wyF_iff hbl).mp hw
      have hj := hp j (by have := (List.getElem?_eq_some_iff.mp hv).1; omega)
      have i1 := (ih _ (nx_of hw2).1)
      have i2 := (ih _ (nx_of hw2).2)
      have n1 := vf_nn hbl O hV h0 _ i1.1
      have n2 := vf_nn hbl O hV h0 _ i2.1
      dsimp only at h i1 i2 n1 n2
      rw [hj] at h
      have hm := max2_ge (V (behF v "bad" lies s)) (V (behF v "good" lies s))
      have keep : ∀ {ans : Str} {z : Int × Int}, z ∈ s → spk v ans z.1 = false → ∃ y ∈ behF v ans lies s, y.1 = z.1 := fun {ans z} hz hsp => by
        refine ⟨(z.1, z.2), ?_, rfl⟩
        unfold behF
        rw [List.mem_filter]
        refine ⟨List.mem_map.mpr ⟨z, hz, by rw [hsp]; simp [b2n]⟩, decide_eq_true (O.ml s hs z hz)⟩
      have a1 := i1.2 (K.filter fun x => decide (∃ y ∈ behF v "bad" lies s, x = rwB bs shut y.1)) (hK.filter _) fun x hx1 => of_decide_eq_true (List.mem_filter.mp hx1).2
      have a2 := i2.2 (K.filter fun x => !decide (∃ y ∈ behF v "bad" lies s, x = rwB bs shut y.1)) (hK.filter _) fun x hx1 => by
        obtain ⟨q1, q2⟩ := List.mem_filter.mp hx1
        obtain ⟨z, hz, rfl⟩ := hx x q1
        cases hi : inb v z.1 with
        | true =>
          obtain ⟨y, hy, ey⟩ := keep (ans := "bad") hz (by rw [spk_bad, hi]; rfl)
          simp only [Bool.not_eq_true', decide_eq_false_iff_not] at q2
          exact absurd ⟨y, hy, by rw [ey]⟩ q2
        | false =>
          obtain ⟨y, hy, ey⟩ := keep (ans := "good") hz (by rw [spk_good, hi])
          exact ⟨y, hy, by rw [ey]⟩
      have hl : K.length = (K.filter fun x => decide (∃ y ∈ behF v "bad" lies s, x = rwB bs shut y.1)).length + (K.filter fun x => !decide (∃ y ∈ behF v "bad" lies s, x = rwB bs shut y.1)).length := by
        exact len_split (fun x => decide (∃ y ∈ behF v "bad" lies s, x = rwB bs shut y.1)) K
      obtain ⟨m, hm2⟩ : ∃ m : Nat, max2 (V (behF v "bad" lies s)) (V (behF v "good" lies s)) = (m : Int) := ⟨(max2 (V (behF v "bad" lies s)) (V (behF v "good" lies s))).toNat, by omega⟩
      have e1 : (V s).toNat = m + 1 := by omega
      have p1 : 2 ^ (V (behF v "bad" lies s)).toNat ≤ 2 ^ m := Nat.pow_le_pow_right (by omega) (by omega)
      have p2 : 2 ^ (V (behF v "good" lies s)).toNat ≤ 2 ^ m := Nat.pow_le_pow_right (by omega) (by omega)
      rw [e1, Nat.pow_succ]
      omega
end
end PDW
set_option linter.all false
set_option maxRecDepth 100000
set_option maxHeartbeats 0
set_option autoImplicit false
namespace PDW
open PySem L2 PD
theorem sbs_app {lies : Int} : ∀ {t s : Sd} {z : Int × Int}, s ∈ sbs lies t → s ∈ sbs lies (t ++ [z]) ∧ ∀ c, z.2 ≤ c → c ≤ lies → s ++ [(z.1, c)] ∈ sbs lies (t ++ [z])
  | [], s, z, h => by
    have : s = [] := by simpa [sbs] using h
    subst this
    exact ⟨sbs_cons.mpr (.inl (by simp [sbs])), fun c h1 h2 => sbs_cons.mpr (.inr ⟨c, [], h1, h2, by simp [sbs], rfl⟩)⟩
  | y :: t, s, z, h => by
    rcases sbs_cons.mp h with h | ⟨c, u, h1, h2, h3, rfl⟩
    · have i := sbs_app (z := z) h
      exact ⟨sbs_cons.mpr (.inl i.1), fun c a b => sbs_cons.mpr (.inl (i.2 c a b))⟩
    · have i := sbs_app (z := z) h3
      exact ⟨sbs_cons.mpr (.inr ⟨c, u, h1, h2, i.1, rfl⟩), fun c' a b => sbs_cons.mpr (.inr ⟨c, u ++ [(z.1, c')], h1, h2, i.2 c' a b, rfl⟩)⟩
theorem at_lastS {st : Sd} (h : st ≠ []) : atI (st.map pI) (-1) = some (pI (st.getLast h)) := by
  have e := (List.dropLast_concat_getLast h).symm
  conv => lhs; rw [e]
  exact at_last (f := pI)
theorem lesser_p (d : Dk3) (st : Sd) (hne : st ≠ []) (hl : st.length ≤ 1000) (lies : Int) (h3 : lies ≤ 3) (hc : ∀ z ∈ st, 0 ≤ z.2 ∧ z.2 ≤ lies) : ∃ (su : Sd) (d' : Dk3), u_qlesser [.c (dk d), .n (sD st), .d (.int lies)] = .val (.d (sD su), [.io (dk d'), .un, .un]) ∧ su ∈ sbs lies st ∧ su ≠ [] := by
  have key : Ok (u_qlesser [.c (dk d), .n (sD st), .d (.int lies)]) fun z => ∃ (su : Sd) (d' : Dk3), z = (.d (sD su), [.io (dk d'), .un, .un]) ∧ su ∈ sbs lies st ∧ su ≠ [] := by
    refine ok_run rfl ?_
    unfold b_qlesser
    have e0 : initS 7 [Ar.c (dk d), Ar.n (sD st), Ar.d (.int lies)] = [.io (dk d), .dat true (sD st), .dat true (.int lies), .un, .un, .un, .un] := rfl
    rw [e0]
    apply w_setX
    · exact x_c (c_l (n_lst a_nil rfl rfl))
    refine w_forL (enc := pI) (fr := true) st (S := Sd × Dk3) (fun i s => s.1 ∈ sbs lies (st.take i) ∧ s.1.length ≤ i ∧ (i = st.length → s.1 ≠ [])) (fun s => [.io (dk s.2), .dat true (sD st), .dat true (.int lies), .own (.lst (s.1.map pI)), .un, .un, .un]) ([], d) (i_seqT (e_var rfl)) rfl ⟨by simp [sbs], by simp, fun e => absurd (List.length_eq_zero_iff.mp e.symm) hne⟩ ?_ ?_
    · rintro i z ⟨su, d1⟩ hz ⟨q1, q0, q2⟩
      dsimp only at q1 q0 q2 ⊢
      refine ⟨_, rfl, ?_⟩
      obtain ⟨hil, hzi⟩ := List.getElem?_eq_some_iff.mp hz
      obtain ⟨c0, c1⟩ := hc z (List.mem_of_getElem? hz)
      obtain ⟨a, d2, ha, a0, a1⟩ := take_t d1 (lies + 1 - z.2) (by omega) (by omega)
      obtain ⟨b, d3, hb, b0, b1⟩ := take_t d2 3 (by decide) (by decide)
      apply w_set
      · exact e_add (e_var rfl) (e_x (x_callE (a_cons (e_varI rfl) (a_cons (e_I (e_add (e_var rfl) e_C) (e_var rfl) k_sub) a_nil)) rfl rfl rfl rfl ha rfl rfl) rfl)
      clear ha
      have hT := sbs_app (z := z) q1
      rw [← take_step hz] at hT
      refine w_ifB (t_or (t_tst (e_cmp (e_x (x_callE (a_cons (e_varI rfl) (a_cons e_C a_nil)) rfl rfl rfl rfl hb rfl rfl) rfl) e_C k_I)) (fun _ => t_and (t_tst (e_cmp (e_varO rfl) (e_ofN (n_lst a_nil rfl rfl)) (k_eqT (eqt_list eqt_pI) (by decide) (x := su) (y := []) rfl rfl))) fun _ => t_tst (e_cmp (e_var rfl) (e_ixT (ds := [.int (st.getLast hne).1, .int (st.getLast hne).2]) (e_ixT (e_var rfl) (e_neg e_C) (at_lastS hne)) e_C rfl) k_eqI))) ?_ ?_
      · intro _
        and_intros
        apply w_expr
        · apply e_ap
          · rfl
          · exact e_frz (e_tup (a_cons (e_frz (e_var rfl)) (a_cons (e_frz (e_var rfl)) a_nil)) rfl rfl)
          · rfl
          · exact ltS_map (by omega)
        exact w_nil ⟨(su ++ [(z.1, z.2 + a)], d3), by rw [List.map_append]; rfl, hT.2 _ (by omega) (by omega), by simp; omega, fun _ => by simp⟩
      · intro hz2
        and_intros
        refine w_nil ⟨(su, d3), rfl, hT.1, by dsimp only; omega, fun e e2 => ?_⟩
        have e2 : su = [] := e2
        have hlast : st.getLast hne = z := by
          rw [List.getLast_eq_getElem, ← hzi]
          congr 1
          omega
        rw [Bool.or_eq_false_iff, Bool.and_eq_false_iff] at hz2
        rcases hz2.2 with h | h
        · exact absurd e2 (of_decide_eq_false h)
        · exact absurd (by rw [hlast]) (of_decide_eq_false h)
    · rintro ⟨su, d1⟩ ⟨q1, q0, q2⟩
      dsimp only at q1 q0 q2 ⊢
      rw [List.take_length] at q1
      apply w_ret
      · exact e_B (a_cons (e_varO rfl) a_nil) (k_tup rfl)
      exact ⟨_, _, rfl, rfl, su, d1, rfl, q1, q2 rfl⟩
  obtain ⟨z, e, su, d', rfl, h⟩ := key
  exact ⟨su, d', e, h⟩
theorem pr_at {qs : List Int} {k : Nat} {v : Int} (h : qs[k]? = some v) : prI qs (k : Nat) = v := by
  show qs[((k : Nat) : Int).toNat]?.getD 0 = v
  rw [Int.toNat_natCast, h]; rfl
theorem dearer_c (d : Dk3) (net : List (List Int)) (qs : List Int) (hq : qs.length ≤ 1000) (fr : Bool) : ∃ (ps : List Int) (d' : Dk3), nComp [4] (gN 4) (iSeq (dVar 2)) PD.tYes (dFrz (dAdd (dVar 4) (dI kMul (dIxB (dOfN (dLst (dAc (dC (.int 0)) (dAc (dC (.int 1)) (dAc (dI kSub (dI kPow (dC (.int 10)) (dC (.int 30))) (dVar 4)) dA0))))) (eX (xCallC u_qtake 0 [] (dAc (dVar 0) (dAc (dC (.int 3)) dA0))))) (dB kInt (dAc (dCmp (kI fun i j => decide (i < j)) (dVar 4) (dI kPow (dC (.int 10)) (dC (.int 30)))) dA0))))) [.io (dk d), .dat false (dTT net), .dat fr (dL qs), .un, .un] = .val (ps.map PyData.int, [.io (dk d'), .dat false (dTT net), .dat fr (dL qs), .un, .un]) ∧ ps.length = qs.length ∧ ∀ k : Nat, k < qs.length → prI qs k ≤ prI ps k := by
  obtain ⟨out, ⟨ps, d2⟩, ec, hout, h1, h2⟩ := n_compS (enc := PyData.int) qs (S := List Int × Dk3) (fun j out s => out = s.1.map PyData.int ∧ s.1.length = j ∧ ∀ (k : Nat) (v w : Int), qs[k]? = some v → s.1[k]? = some w → v ≤ w)
    (fun s => [.io (dk s.2), .dat false (dTT net), .dat fr (dL qs), .un, .un]) ([], d)
    (vs := [4]) (g := gN 4) (it := iSeq (dVar 2)) (t := PD.tYes) (e := dFrz (dAdd (dVar 4) (dI kMul (dIxB (dOfN (dLst (dAc (dC (.int 0)) (dAc (dC (.int 1)) (dAc (dI kSub (dI kPow (dC (.int 10)) (dC (.int 30))) (dVar 4)) dA0))))) (eX (xCallC u_qtake 0 [] (dAc (dVar 0) (dAc (dC (.int 3)) dA0))))) (dB kInt (dAc (dCmp (kI fun i j => decide (i < j)) (dVar 4) (dI kPow (dC (.int 10)) (dC (.int 30)))) dA0))))) (Γ := [.io (dk d), .dat false (dTT net), .dat fr (dL qs), .un, .un])
    (i_seqL (e_var rfl)) (by omega) rfl ⟨rfl, rfl, by simp⟩ (by
      rintro j x out ⟨s, d1⟩ hx ⟨rfl, g1, g2⟩
      dsimp only at g1 g2 ⊢
      obtain ⟨q, d3, hq, q0, q1⟩ := take_t d1 3 (by decide) (by decide)
      obtain ⟨y, hy, y0⟩ : ∃ y : Int, atI [PyData.int 0, .int 1, .int ((10 : Int) ^ (30 : Int).toNat - x)] q = some (.int y) ∧ (x < (10 : Int) ^ (30 : Int).toNat → 0 ≤ y) := by
        have : q = 0 ∨ q = 1 ∨ q = 2 := by omega
        rcases this with e | e | e <;> rw [e]
        · exact ⟨_, rfl, fun _ => by omega⟩
        · exact ⟨_, rfl, fun _ => by omega⟩
        · exact ⟨_, rfl, fun h => by omega⟩
      have hb : ∀ b : Bool, cMulX y (b2n b) = true := fun b => by
        unfold cMulX
        cases b <;> simp [b2n]
      have hv : x ≤ x + y * b2n (decide (x < (10 : Int) ^ (30 : Int).toNat)) := by
        by_cases h : x < (10 : Int) ^ (30 : Int).toNat
        · rw [decide_eq_true h]
          have := y0 h
          show x ≤ x + y * 1
          omega
        · rw [decide_eq_false h]
          show x ≤ x + y * 0
          omega
      refine ⟨_, rfl, _, _, rfl, fun _ => ⟨_, _, (s ++ [x + y * b2n (decide (x < (10 : Int) ^ (30 : Int).toNat))], d3), e_frz (e_add (e_var rfl) (e_I (e_ixL (e_ofN (n_lst (a_cons e_C (a_cons e_C (a_cons (e_I (e_I e_C e_C (k_pow rfl)) (e_var rfl) k_sub) a_nil))) rfl rfl)) (e_x (x_callE (a_cons (e_varI rfl) (a_cons e_C a_nil)) rfl rfl rfl rfl hq rfl rfl) rfl) hy) (e_B (a_cons (e_cmp (e_var rfl) (e_I e_C e_C (k_pow rfl)) k_I) a_nil) rfl) (k_mul (hb _)))), rfl, ?_⟩, fun e => by cases e⟩
      refine ⟨by rw [List.map_append]; rfl, by simp; omega, fun k v w hv1 hw1 => ?_⟩
      by_cases hk : k < s.length
      · rw [List.getElem?_append_left hk] at hw1
        exact g2 k v w hv1 hw1
      · have hk2 : k = s.length := by
          have := (List.getElem?_eq_some_iff.mp hw1).1
          simp at this
          omega
        subst hk2
        rw [g1, hx] at hv1
        cases hv1
        simp at hw1
        rw [← hw1]
        exact hv)
  dsimp only at hout h1 h2
  subst hout
  refine ⟨ps, d2, ec, h1, fun k hk => ?_⟩
  obtain ⟨v, hv⟩ : ∃ v, qs[k]? = some v := ⟨_, List.getElem?_eq_getElem hk⟩
  obtain ⟨w, hw⟩ : ∃ v, ps[k]? = some v := ⟨_, List.getElem?_eq_getElem (by omega)⟩
  rw [pr_at hv, pr_at hw]
  exact h2 k v w hv hw
theorem dearer_p (d : Dk3) (net : List (List Int)) (hn : net.length ≤ 1000) (pc : Option (List Int)) (hpc : PcOk net.length pc) : ∃ (ps : List Int) (d' : Dk3), u_qdearer [.c (dk d), .d (dTT net), .d (pcD pc)] = .val (.c (.lst (ps.map PyData.int)), [.io (dk d'), .un, .un]) ∧ ps.length = net.length ∧ ∀ k : Nat, k < net.length → prI (psO net.length pc) k ≤ prI ps k := by
  have key : Ok (u_qdearer [.c (dk d), .d (dTT net), .d (pcD pc)]) fun z => ∃ (ps : List Int) (d' : Dk3), z = (.c (.lst (ps.map PyData.int)), [.io (dk d'), .un, .un]) ∧ ps.length = net.length ∧ ∀ k : Nat, k < net.length → prI (psO net.length pc) k ≤ prI ps k := by
    refine ok_run rfl ?_
    unfold b_qdearer
    cases pc with
    | none =>
      apply w_ifY
      · exact t_tst (e_cmp (e_var rfl) e_C (k_is rfl))
      · rfl
      and_intros
      apply w_set
      · exact e_ofN (n_map (enc := fun e : List Int => dT e) net (fun _ => .int 1) (i_seqT (e_var rfl)) (by omega) rfl fun z hz => ⟨_, rfl, rfl, e_C⟩)
      and_intros
      have e : (net.map fun _ => PyData.int 1) = (List.replicate net.length 1).map PyData.int := by rw [List.map_const', List.map_replicate]
      rw [e]
      obtain ⟨ps, d', hc, h1, h2⟩ := dearer_c d net (List.replicate net.length 1) (by simp; omega) true
      apply w_retC
      · exact c_l hc
      rw [List.length_replicate] at h1 h2
      exact ⟨_, _, rfl, rfl, ps, d', rfl, h1, h2⟩
    | some qs =>
      have hq := (hpc qs rfl).1
      apply w_ifN
      · exact t_tst (e_cmp (e_var rfl) e_C (k_is rfl))
      · rfl
      and_intros
      obtain ⟨ps, d', hc, h1, h2⟩ := dearer_c d net qs (by omega) false
      apply w_retC
      · exact c_l hc
      rw [hq] at h1 h2
      exact ⟨_, _, rfl, rfl, ps, d', rfl, h1, h2⟩
  obtain ⟨z, e, su, d', rfl, h⟩ := key
  exact ⟨su, d', e, h⟩
abbrev rwK (l : List Bool) : PyData := .tuple (l.map .bool)
theorem nkDs_b : ∀ l : List Bool, nkDs (l.map PyData.bool) = some (l.map fun b => NestedKey.num (if b then 1 else 0))
  | [] => by rw [List.map_nil, nkDs]; rfl
  | b :: r => by
    rw [List.map_cons, nkDs, nkD, nkDs_b r]; rfl
theorem nkD_b (l : List Bool) : nkD (rwK l) = some (.tup (l.map fun b => NestedKey.num (if b then 1 else 0))) := by
  rw [rwK, nkD, nkDs_b]; rfl
theorem nkd_depB : ∀ l : List Bool, NestedKey.depthAll (l.map fun b => NestedKey.num (if b then 1 else 0)) = 0
  | [] => rfl
  | b :: r => by
    rw [List.map_cons, NestedKey.depthAll, nkd_depB r]
    simp [NestedKey.depth]
theorem eqN_b : ∀ l : List Bool, eqNs (l.map PyData.bool) (l.map PyData.bool) = true
  | [] => by rw [List.map_nil, eqNs]
  | b :: r => by
    rw [List.map_cons, eqNs, eqN_b r, Bool.and_true]
    simp [eqN]
theorem nk_bs : NKey rwK where
  ok l := by
    unfold nkOk
    show (match nkD (rwK l) with | some kk => decide (kk.depth ≤ 8) | none => false) = true
    rw [nkD_b]
    apply decide_eq_true
    rw [NestedKey.depth, nkd_depB]
    omega
  inj a b h := by
    rw [nkD_b, nkD_b] at h
    have h := NestedKey.tup.inj (Option.some.inj h)
    have key : ∀ a b : List Bool, a.map (fun b => NestedKey.num (if b then 1 else 0)) = b.map (fun b => NestedKey.num (if b then 1 else 0)) → a = b := by
      intro a
      induction a with
      | nil => intro b h; cases b with
        | nil => rfl
        | cons y r => cases h
      | cons x r ih =>
        intro b h
        cases b with
        | nil => cases h
        | cons y s =>
          have h1 := (List.cons.inj h).1
          have h2 := ih s (List.cons.inj h).2
          rw [h2]
          cases x <;> cases y <;> first | rfl | (simp at h1)
    exact key a b h
  eq l := by rw [eqN]; exact eqN_b l
theorem keys_put {l : List (List Bool × Bool)} {k : List Bool} {v : Bool} : (putK' l k v).map (·.1) = if k ∈ l.map (·.1) then l.map (·.1) else l.map (·.1) ++ [k] := by
  unfold putK'
  split
  · rw [List.map_map]
    apply List.map_congr_left
    intro z _
    show (if z.1 = k then (z.1, v) else z).1 = z.1
    split <;> rfl
  · rw [List.map_append]; rfl
theorem classes_p (net : List (List Int)) (hn : net.length ≤ 1000) (bs : List Int) (hB : BitsOk net bs) (rs : List (List Int)) (hrl : rs.length = net.length) (hF : FromOk net rs) (shut : List Int) (st : Sd) (hl : st.length ≤ 1000) (hm : ∀ z ∈ st, 0 ≤ z.1) :
    ∃ K : List (List Bool), u_qclasses [.d (.list (rs.map dOne)), .d (dL shut), .n (sD st)] = .val (.d (.int (K.length : Nat)), [.un, .un, .un]) ∧ K.Nodup ∧ ∀ x, x ∈ K ↔ ∃ z ∈ st, x = rwB bs shut z.1 := by
  have hbl := hB.1
  have key : Ok (u_qclasses [.d (.list (rs.map dOne)), .d (dL shut), .n (sD st)]) fun z => ∃ K : List (List Bool), z = (.d (.int (K.length : Nat)), [.un, .un, .un]) ∧ K.Nodup ∧ ∀ x, x ∈ K ↔ ∃ z ∈ st, x = rwB bs shut z.1 := by
    refine ok_run rfl ?_
    unfold b_qclasses
    have e0 : initS 8 [Ar.d (.list (rs.map dOne)), Ar.d (dL shut), Ar.n (sD st)] = [.dat false (.list (rs.map dOne)), .dat false (dL shut), .dat true (sD st), .un, .un, .un, .un, .un] := rfl
    rw [e0]
    apply w_setX
    · exact x_c rfl
    refine w_forL (enc := pI) (fr := true) (Γ1 := [.dat false (.list (rs.map dOne)), .dat false (dL shut), .dat true (sD st), .own (.dic .n (encN (nD rwK PyData.bool ([] : List (List Bool × Bool))))), .un, .un, .un, .un]) st (S := List (List Bool × Bool)) (fun i D => D.length ≤ i ∧ (D.map (·.1)).Nodup ∧ ∀ x, x ∈ D.map (·.1) ↔ ∃ z ∈ st.take i, x = rwB bs shut z.1) (fun D => [.dat false (.list (rs.map dOne)), .dat false (dL shut), .dat true (sD st), .own (.dic .n (encN (nD rwK PyData.bool D))), .un, .un, .un, .un]) [] (i_seqT (e_var rfl)) rfl ⟨by simp, by simp, by simp⟩ ?_ ?_
    · rintro i z D hz ⟨q0, q1, q2⟩
      refine ⟨_, rfl, ?_⟩
      have hz0 := hm z (List.mem_of_getElem? hz)
      have hil := (List.getElem?_eq_some_iff.mp hz).1
      apply w_set
      · apply e_B
        · apply a_cons
          · apply e_ofN
            exact n_comp (enc := PyData.int) (rng 0 (net.length : Nat)) (fun k => !decide (k ∈ shut)) (fun k => .bool (inb (bs[k.toNat]?.getD 0) z.1)) (i_range1 (by rw [← hrl]; exact e_B (a_cons (e_var rfl) a_nil) (k_lenI (enc := dOne) (xs := rs) rfl)) (cRng_of (by decide) (by decide) (by omega) (by omega))) (by rw [rng_len]; omega) rfl fun k hk => by
              have hk2 := rng_mem.mp hk
              obtain ⟨j, rfl⟩ : ∃ j : Nat, k = (j : Int) := ⟨k.toNat, by omega⟩
              obtain ⟨r, hr⟩ : ∃ r, rs[j]? = some r := ⟨_, List.getElem?_eq_getElem (by omega)⟩
              obtain ⟨v, hv⟩ : ∃ v, bs[j]? = some v := ⟨_, List.getElem?_eq_getElem (by omega)⟩
              have hO := hF j r hr
              rw [Int.toNat_natCast, hv]
              refine ⟨_, rfl, rfl, t_tst (e_cmp (e_var rfl) (e_var rfl) (k_ninT eqt_int (by decide) (x := ((j : Nat) : Int)) (xs := shut) rfl rfl)), fun _ => ?_⟩
              have e1 := own_inb hB hF hv hr hz0
              show dFrz _ _ = R.val (AV.d true (.bool (inb v z.1)), _)
              rw [← e1]
              exact e_frz (e_cmp (e_var rfl) (e_ixL (e_var rfl) (e_var rfl) (at_nat hr)) (k_inOne hO.2.2.1))
          · exact a_nil
        · exact k_tup rfl
      have hrow : PyData.tuple (((rng 0 (net.length : Nat)).filter fun k => !decide (k ∈ shut)).map fun k => PyData.bool (inb (bs[k.toNat]?.getD 0) z.1)) = rwK (rwB bs shut z.1) := by
        unfold rwK rwB
        rw [List.map_map, hbl]; rfl
      rw [hrow]
      refine w_putN nk_bs (vD := PyData.bool) (l := D) (k := rwB bs shut z.1) (v := true) (io := false) (e_frz e_C) rfl (e_var rfl) rfl (by omega) rfl ?_
      refine w_nil ⟨putK' D (rwB bs shut z.1) true, rfl, ?_, ?_, fun x => ?_⟩
      · have := congrArg List.length (keys_put (l := D) (k := rwB bs shut z.1) (v := true))
        rw [List.length_map] at this
        rw [this]
        split <;> simp <;> omega
      · rw [keys_put]
        split
        · exact q1
        · next h =>
          rw [List.nodup_append]
          exact ⟨q1, by simp, fun a ha b hb e => h (by rw [← (List.mem_singleton.mp hb), ← e]; exact ha)⟩
      · rw [keys_put, take_step hz]
        have hx : x = rwB bs shut z.1 ↔ ∃ y ∈ [z], x = rwB bs shut y.1 := by simp
        split
        · next h =>
          rw [q2]
          constructor
          · rintro ⟨y, hy, e⟩; exact ⟨y, List.mem_append_left _ hy, e⟩
          · rintro ⟨y, hy, e⟩
            rcases List.mem_append.mp hy with hy | hy
            · exact ⟨y, hy, e⟩
            · rw [List.mem_singleton.mp hy] at e
              rw [e]
              exact (q2 _).mp h
        · next h =>
          rw [List.mem_append, q2]
          constructor
          · rintro (⟨y, hy, e⟩ | e)
            · exact ⟨y, List.mem_append_left _ hy, e⟩
            · exact ⟨z, by simp, List.mem_singleton.mp e⟩
          · rintro ⟨y, hy, e⟩
            rcases List.mem_append.mp hy with hy | hy
            · exact .inl ⟨y, hy, e⟩
            · rw [List.mem_singleton.mp hy] at e
              exact .inr (by rw [e]; simp)
    · rintro D ⟨q0, q1, q2⟩
      rw [List.take_length] at q2
      apply w_ret
      · apply e_B
        · exact a_cons (e_frzKO (e_varO rfl) rfl) a_nil
        · show kLenN _ _ = _
          unfold kLenN
          simp only [ndA_d nk_bs]
          rfl
      refine ⟨_, _, rfl, rfl, D.map (·.1), ?_, q1, q2⟩
      simp
  obtain ⟨z, e, K, rfl, h⟩ := key
  exact ⟨K, e, h⟩
end PDW
set_option linter.all false
set_option maxRecDepth 100000
set_option maxHeartbeats 0
set_option autoImplicit false
namespace PDW
open PySem L2 PD
abbrev rsB (d : Dk3) (net : List (List Int)) (st : Sd) (shut : List Int) (lies : Int) (pc : Option (List Int)) (s6 s7 s8 s9 s10 : Sl) : List Sl := [.io (dk d), .dat false (dTT net), .dat true (sD st), .dat true (dL shut), .dat true (.int lies), .dat true (pcD pc), s6, s7, s8, s9, s10]
theorem k_neBB {Γ : List Sl} {f1 f2 a b : Bool} : kNe Γ (.d f1 (.bool a)) (.d f2 (.bool b)) = .val (!decide (a = b)) := by
  cases a <;> cases b <;> exact k_ne rfl rfl rfl rfl rfl
theorem prI_nn {ps : List Int} (h : ∀ p ∈ ps, 1 ≤ p) (k : Int) : 0 ≤ prI ps k := by
  show 0 ≤ ps[k.toNat]?.getD 0
  cases e : ps[k.toNat]? with
  | none => exact Int.le_refl _
  | some p => have := h p (List.mem_of_getElem? e); show 0 ≤ p; omega
theorem prI_ge {ps : List Int} (h : ∀ p ∈ ps, 1 ≤ p) {k : Nat} (hk : k < ps.length) : 1 ≤ prI ps (k : Nat) := by
  obtain ⟨v, hv⟩ : ∃ v, ps[k]? = some v := ⟨_, List.getElem?_eq_getElem hk⟩
  rw [pr_at hv]
  exact h v (List.mem_of_getElem? hv)
theorem prI_rep {n : Nat} {p : Int} {k : Nat} (hk : k < n) : prI (List.replicate n p) (k : Nat) = p := by
  rw [pr_at (v := p)]
  rw [List.getElem?_replicate, if_pos hk]
theorem vf_room {net : List (List Int)} {bs shut : List Int} {lies : Int} {L : List Sd} {U : Nat} {pr : Int → Int} {V : Sd → Int} (hbl : bs.length = net.length) (O : BkOk net bs shut lies L U) (hV : Vf net bs shut lies L pr V) (hp : ∀ k : Nat, k < net.length → pr (k : Int) = 1) : ∀ s ∈ L, V s ≤ room lies s := by
  have D := dwn_of hbl O.ml (shut := shut)
  exact room_ind hbl O fun s hs ih => by
    by_cases e : wyF net.length bs shut lies s = []
    · rw [hV.nil s hs e]; exact (D s hs).1
    · obtain ⟨w, hw, h⟩ := hV.at' s hs e
      have a1 := (ih _ (nx_of hw).1).2
      have a2 := (ih _ (nx_of hw).2).2
      have b1 := (D s hs).2 _ (nx_of hw).1
      have b2 := (D s hs).2 _ (nx_of hw).2
      obtain ⟨j, v, hv, _, _, _, rfl⟩ := (wyF_iff hbl).mp hw
      have h3 := hp j (by have := (List.getElem?_eq_some_iff.mp hv).1; omega)
      dsimp only at *
      have : max2 (V (behF v "bad" lies s)) (V (behF v "good" lies s)) ≤ room lies s - 1 := by unfold max2; split <;> omega
      omega
theorem right_p {net : List (List Int)} {st : Sd} {shut : List Int} {lies : Int} {pc : Option (List Int)} (Q : QOk net st shut lies pc) (d : Dk3) : ∃ d' : Dk3, u_qright [.c (dk d), .d (dTT net), .n (sD st), .n (dL shut), .d (.int lies), .n (pcD pc)] = .val (.d (.bool true), [.io (dk d'), .un, .un, .un, .un, .un]) := by
  have hlen := Q.len.2
  have hn : net.length ≤ 1000 := by omega
  obtain ⟨bs, hB, eb⟩ := bits_q net Q.ok hn
  have hbl := hB.1
  obtain ⟨m, hl, hsl, O, hO, hrm⟩ := q_facts Q (shut := shut) hbl
  have hm10 : m ≤ 10 := by
    obtain ⟨m', e1, _, e3⟩ := Q.most
    have : (m : Int) = m' := PyData.int.inj (Option.some.inj (hl.symm.trans e1))
    omega
  have hst : st.length ≤ 1000 := by omega
  obtain ⟨rs, hrs, hrl, hF⟩ := from_t net Q.ok hn
  have hpd := prD_pc Q.pc
  have hpl := hpd.len
  have hp1 : ∀ p ∈ psO net.length pc, 1 ≤ p := fun p hp => by
    cases pc with
    | none => rw [(List.mem_replicate.mp hp).2]; exact Int.le_refl _
    | some ps => exact (Q.pc ps rfl).2 p hp
  have hcc : ∀ s : Sd, s.length ≤ st.length → (s.length : Int) ≤ (m : Int) ∨ usf net.length bs s shut = [] := fun s h => .inl (by omega)
  have num := fun (pd : PyData) (ps : List Int) (hpd : PrD net.length pd ps) => numberOf_q net hn bs hB eb (BarD.l shut) hpd lies m hl st O hO (hcc st (Nat.le_refl _))
  have hV := fun ps : List Int => vf_bv (net := net) (shut := shut) hbl O (prI ps)
  -- the lesser stand
  obtain ⟨su, d1, hsu, hs1, hs2⟩ := lesser_p d st Q.ne hst lies Q.lie.2 Q.cnt
  have hsm := sbs_mem hs1
  have hsL : su ∈ sbN lies st := by
    unfold sbN
    rw [List.mem_filter]
    refine ⟨hs1, ?_⟩
    cases su with
    | nil => exact absurd rfl hs2
    | cons a b => rfl
  have n1 := num _ _ hpd
  have n2 := numberOf_q net hn bs hB eb (BarD.l shut) hpd lies m hl su O hsL (hcc su hsm.1)
  obtain ⟨ps, d2, hps, hpsl, hpsg⟩ := dearer_p d1 net hn pc Q.pc
  have n3 := num _ _ (PrD.l ps hpsl)
  have n4 := num _ _ (PrD.n (n := net.length))
  obtain ⟨K, hK, hKn, hKm⟩ := classes_p net hn bs hB rs hrl hF shut st hst fun z hz => (Q.rng z hz).1
  obtain ⟨p0, d3, hp0, p00, p01⟩ := take_t d2 (10 ^ 15) (by decide) (by decide)
  have n5 := num _ _ (PrD.l (List.replicate net.length (1 + p0)) (by simp))
  -- what holds of them
  have c1 : (bvB net.length bs shut lies (psO net.length pc) su).1 ≤ (bvB net.length bs shut lies (psO net.length pc) st).1 := vf_sub hbl O (hV (psO net.length pc)) (prI_nn hp1) st hO su hsL hs1
  have c2 : (bvB net.length bs shut lies (psO net.length pc) st).1 ≤ (bvB net.length bs shut lies ps st).1 := vf_pr hbl O (hV (psO net.length pc)) (hV ps) hpsg st hO
  have one : ∀ k : Nat, k < net.length → prI (List.replicate net.length 1) (k : Int) = 1 := fun k hk => prI_rep hk
  have hr1 : ∀ p ∈ List.replicate net.length (1 : Int), 1 ≤ p := fun p hp => by rw [(List.mem_replicate.mp hp).2]; exact Int.le_refl _
  have z1 := vf_zero hbl O (hV (psO net.length pc)) (fun k hk => prI_ge hp1 (by omega)) (prI_nn hp1) hO
  have z2 := vf_zero hbl O (hV (List.replicate net.length 1)) (fun k hk => prI_ge hr1 (by simp; omega)) (prI_nn hr1) hO
  have c4 := vf_cls hbl O (hV (List.replicate net.length 1)) one (prI_nn hr1) st hO K hKn fun x hx => (hKm x).mp hx
  have c5 : (bvB net.length bs shut lies (List.replicate net.length (1 + p0)) st).1 = (1 + p0) * (bvB net.length bs shut lies (List.replicate net.length 1) st).1 := vf_mul hbl O (p := 1 + p0) (by omega) (hV (List.replicate net.length 1)) (hV (List.replicate net.length (1 + p0))) (fun k hk => ⟨one k hk, prI_rep hk⟩) st hO
  have r1 := vf_room hbl O (hV (List.replicate net.length 1)) one st hO
  have r0 := vf_nn hbl O (hV (List.replicate net.length 1)) (prI_nn hr1) st hO
  have hKw : K.length = 1 ↔ wyF net.length bs shut lies st = [] := by
    obtain ⟨z, hz⟩ := List.exists_mem_of_ne_nil _ Q.ne
    rw [wy_alike hbl]
    constructor
    · intro h a ha b hb
      obtain ⟨x, rfl⟩ := List.length_eq_one_iff.mp h
      have e1 := (hKm _).mpr ⟨a, ha, rfl⟩
      have e2 := (hKm _).mpr ⟨b, hb, rfl⟩
      rw [List.mem_singleton.mp e1, List.mem_singleton.mp e2]
    · intro h
      have l1 := nodup_one hKn fun x hx y hy => by
        obtain ⟨a, ha, rfl⟩ := (hKm x).mp hx
        obtain ⟨b, hb, rfl⟩ := (hKm y).mp hy
        exact h a ha b hb
      have l2 := List.length_pos_of_mem ((hKm _).mpr ⟨z, hz, rfl⟩)
      omega
  have hVst : ∀ ps, (bvB net.length bs shut lies ps st).1 = (bv (wyF net.length bs shut lies) (prI ps) lies st).1 := fun _ => rfl
  have z1 : (bvB net.length bs shut lies (psO net.length pc) st).1 = 0 ↔ K.length = 1 := z1.trans hKw.symm
  have z2 : (bvB net.length bs shut lies (List.replicate net.length 1) st).1 = 0 ↔ K.length = 1 := z2.trans hKw.symm
  have c4 : K.length ≤ 2 ^ (bvB net.length bs shut lies (List.replicate net.length 1) st).1.toNat := c4
  have r1 : (bvB net.length bs shut lies (List.replicate net.length 1) st).1 ≤ room lies st := r1
  have r0 : 0 ≤ (bvB net.length bs shut lies (List.replicate net.length 1) st).1 := r0
  generalize (bvB net.length bs shut lies (psO net.length pc) st).1 = v1 at n1 c1 c2 z1
  generalize (bvB net.length bs shut lies (psO net.length pc) su).1 = v2 at n2 c1
  generalize (bvB net.length bs shut lies ps st).1 = v3 at n3 c2
  generalize (bvB net.length bs shut lies (List.replicate net.length 1) st).1 = v4 at n4 z2 c4 c5 r1 r0
  generalize (bvB net.length bs shut lies (List.replicate net.length (1 + p0)) st).1 = v5 at n5 c5
  clear hV num
  refine ⟨d3, ok_eq (ok_run rfl ?_)⟩
  unfold b_qright
  have e0 : initS 11 [Ar.c (dk d), Ar.d (dTT net), Ar.n (sD st), Ar.n (dL shut), Ar.d (.int lies), Ar.n (pcD pc)] = rsB d net st shut lies pc .un .un .un .un .un := rfl
  rw [e0]
  apply w_set
  · exact e_x (x_callM (a_cons (e_var rfl) (a_cons (e_frz (e_var rfl)) (a_cons (e_var rfl) (a_cons (e_var rfl) (a_cons (e_var rfl) a_nil))))) rfl n1) rfl
  apply w_ifN
  · exact t_tst (e_cmp (e_x (x_callM (a_cons (e_var rfl) (a_cons (e_x (x_callCM (a_cons (e_varI rfl) (a_cons (e_frz (e_var rfl)) (a_cons (e_var rfl) a_nil))) rfl rfl rfl hsu rfl) rfl) (a_cons (e_var rfl) (a_cons (e_var rfl) (a_cons (e_var rfl) a_nil))))) rfl n2) rfl) (e_var rfl) k_I)
  · exact decide_eq_false (by omega)
  and_intros
  apply w_ifN
  · exact t_tst (e_cmp (e_x (x_callM (a_cons (e_var rfl) (a_cons (e_frz (e_var rfl)) (a_cons (e_var rfl) (a_cons (e_var rfl) (a_cons (e_x (x_callE (a_cons (e_varI rfl) (a_cons (e_var rfl) (a_cons (e_var rfl) a_nil))) rfl rfl rfl rfl hps rfl rfl) rfl) a_nil))))) rfl n3) rfl) (e_var rfl) k_I)
  · exact decide_eq_false (by omega)
  and_intros
  apply w_set
  · exact e_x (x_callM (a_cons (e_var rfl) (a_cons (e_frz (e_var rfl)) (a_cons (e_var rfl) (a_cons (e_var rfl) a_nil)))) rfl n4) rfl
  apply w_set
  · exact e_x (x_callM (a_cons (e_x (x_call (a_cons (e_var rfl) a_nil) rfl hrs) rfl) (a_cons (e_var rfl) (a_cons (e_frz (e_var rfl)) a_nil))) rfl hK) rfl
  have b1 : decide (v1 = 0) = decide ((K.length : Int) = 1) := by rw [decide_eq_decide]; omega
  have b2 : decide (v4 = 0) = decide ((K.length : Int) = 1) := by rw [decide_eq_decide]; omega
  have b3 : (K.length : Int) ≤ 1 * 2 ^ v4.toNat := by
    rw [Int.one_mul]
    exact_mod_cast c4
  apply w_ifN
  · refine t_or (t_tst (e_cmp (e_cmp (e_var rfl) e_C k_eqI) (e_cmp (e_var rfl) e_C k_eqI) k_neBB)) fun _ => t_or (t_tst (e_cmp (e_cmp (e_var rfl) e_C k_eqI) (e_cmp (e_var rfl) e_C k_eqI) k_neBB)) fun _ => t_tst (e_cmp (e_var rfl) (e_I e_C (e_var rfl) (k_shl ?_)) k_I)
    unfold cShl
    rw [decide_eq_true r0, Bool.true_and]
    apply decide_eq_true
    have : (Builtin.Int.intBits 1 : Int) = 1 := by decide
    omega
  · rw [b1, b2]
    simp only [decide_true, Bool.not_true, Bool.false_or]
    exact decide_eq_false (by omega)
  and_intros
  apply w_set
  · exact e_add e_C (e_x (x_callE (a_cons (e_varI rfl) (a_cons (e_I e_C e_C (k_pow rfl)) a_nil)) rfl rfl rfl rfl hp0 rfl rfl) rfl)
  have hcomp : ∀ (s6 s7 s8 s10 : Sl), s10 = .un → nComp [10] (gN 10) (iSeq (dVar 1)) PD.tYes (dFrz (dVar 9)) (rsB d3 net st shut lies pc s6 s7 s8 (.dat true (.int (1 + p0))) s10) = .val ((List.replicate net.length (1 + p0)).map PyData.int, rsB d3 net st shut lies pc s6 s7 s8 (.dat true (.int (1 + p0))) .un) := fun s6 s7 s8 s10 e => by
    subst e
    have := n_map (enc := fun e : List Int => dT e) net (fun _ => .int (1 + p0)) (vs := [10]) (g := gN 10) (it := iSeq (dVar 1)) (e := dFrz (dVar 9)) (Γ := rsB d3 net st shut lies pc s6 s7 s8 (.dat true (.int (1 + p0))) .un) (i_seqT (e_var rfl)) (by omega) rfl fun z hz => ⟨_, rfl, rfl, e_frz (e_var rfl)⟩
    rw [this, List.map_const', List.map_replicate]
    rfl
  apply w_ret
  · exact e_cmp (e_x (x_callM (a_cons (e_var rfl) (a_cons (e_frz (e_var rfl)) (a_cons (e_var rfl) (a_cons (e_var rfl) (a_cons (e_ofN (hcomp _ _ _ _ rfl)) a_nil))))) rfl n5) rfl) (e_I (e_var rfl) (e_var rfl) (k_mul (by
      unfold cMulX
      rw [decide_eq_true (show (1 + p0).natAbs < 2 ^ 64 by omega)]; rfl))) k_eqI
  refine ⟨_, _, rfl, rfl, ?_⟩
  rw [c5, decide_eq_true rfl]
theorem law_true (ns : List Int) (hns : ns.length ≤ 63) : u_p_law [.d (.list (ns.map PyData.int))] = .val (.d (.bool true), [.un]) := by
  refine ok_eq (ok_run rfl ?_)
  unfold b_p_law
  refine w_forL (enc := PyData.int) (rng 0 (max2 1 (min2 (ns.length : Nat) 3))) (S := Unit) (fun _ _ => True) (fun _ => [.dat false (dL ns), .un, .un, .un, .un, .un, .un, .un]) () (i_range1 (e_B (a_cons e_C (a_cons (e_B (a_cons (e_B (a_cons (e_var rfl) a_nil) (k_lenI rfl)) (a_cons e_C a_nil)) k_mn2) a_nil)) k_mx2) (cRng_of (by decide) (by decide) (by unfold max2 min2; split <;> split <;> omega) (by unfold max2 min2; split <;> split <;> omega))) rfl trivial ?_ ?_
  · rintro i x _ hx _
    obtain ⟨k, rfl⟩ : ∃ k : Nat, x = (k : Int) := by
      have := rng_mem.mp (List.mem_of_getElem? hx)
      exact ⟨x.toNat, by omega⟩
    refine ⟨_, rfl, ?_⟩
    obtain ⟨d0, hd0⟩ := feed_t ns k
    obtain ⟨net, st, shut, lies, pc, d1, hd1, hQ⟩ := drawn_b d0
    obtain ⟨d2, hr⟩ := right_p hQ d1
    apply w_setX
    · exact x_call (a_cons (e_var rfl) (a_cons (e_var rfl) a_nil)) rfl hd0
    apply w_setG (Γ2 := [.dat false (dL ns), .dat true (.int (k : Nat)), .own (dk d1), .dat true (dTT net), .dat true (sD st), .dat true (dL shut), .dat true (.int lies), .dat true (pcD pc)])
    · exact e_x (x_callE (a_cons (e_varO rfl) a_nil) rfl rfl rfl rfl hd1 rfl rfl) rfl
    · rfl
    apply w_ifN
    · exact t_not (t_tst (e_x (x_callCM (a_cons (e_varO rfl) (a_cons (e_var rfl) (a_cons (e_frz (e_var rfl)) (a_cons (e_frz (e_var rfl)) (a_cons (e_var rfl) (a_cons (e_frz (e_var rfl)) a_nil)))))) rfl rfl rfl hr rfl) rfl))
    · rfl
    and_intros
    exact w_nil ⟨(), rfl, trivial⟩
  · rintro ⟨⟩ _
    nofun
    exact ⟨_, _, rfl, rfl, rfl⟩
end PDW
end
end
end
end
set_option Elab.async false
set_option linter.all false
set_option maxRecDepth 100000
set_option maxHeartbeats 0
namespace PDW
open PySem PySem.Spec PyProof.Rows L2 PD
def dd0 : He.DefD := ⟨("law", none), "law", "law", defArgs (top 38), defBody (top 38), defScope (top 38), [], []⟩
def dd1 : He.DefD := ⟨("_law_feed", none), "_law_feed", "_law_feed", defArgs (top 25), defBody (top 25), defScope (top 25), [], []⟩
def dd2 : He.DefD := ⟨("_law_cell_at", none), "_law_cell_at", "_law_cell_at", defArgs (top 24), defBody (top 24), defScope (top 24), [], []⟩
def dd3 : He.DefD := ⟨("_law_drawn", none), "_law_drawn", "_law_drawn", defArgs (top 33), defBody (top 33), defScope (top 33), [], []⟩
def dd4 : He.DefD := ⟨("_law_net", none), "_law_net", "_law_net", defArgs (top 27), defBody (top 27), defScope (top 27), [], []⟩
def dd5 : He.DefD := ⟨("_law_take", none), "_law_take", "_law_take", defArgs (top 26), defBody (top 26), defScope (top 26), [], []⟩
def dd6 : He.DefD := ⟨("_law_star", none), "_law_star", "_law_star", defArgs (top 32), defBody (top 32), defScope (top 32), [], []⟩
def dd7 : He.DefD := ⟨("_law_prices", none), "_law_prices", "_law_prices", defArgs (top 31), defBody (top 31), defScope (top 31), [], []⟩
def dd8 : He.DefD := ⟨("_law_stand", none), "_law_stand", "_law_stand", defArgs (top 29), defBody (top 29), defScope (top 29), [], []⟩
def dd9 : He.DefD := ⟨("_law_barred", none), "_law_barred", "_law_barred", defArgs (top 30), defBody (top 30), defScope (top 30), [], []⟩
def dd10 : He.DefD := ⟨("_law_right", none), "_law_right", "_law_right", defArgs (top 37), defBody (top 37), defScope (top 37), [], []⟩
def dd11 : He.DefD := ⟨("number_of", none), "number_of", "number_of", defArgs (top 22), defBody (top 22), defScope (top 22), [.non, .int 0, .non], []⟩
def dd12 : He.DefD := ⟨("best_of", none), "best_of", "best_of", defArgs (top 21), defBody (top 21), defScope (top 21), [], []⟩
def dd13 : He.DefD := ⟨("bits_of", none), "bits_of", "bits_of", defArgs (top 4), defBody (top 4), defScope (top 4), [], []⟩
def dd14 : He.DefD := ⟨("some_of", none), "some_of", "some_of", defArgs (top 6), defBody (top 6), defScope (top 6), [], []⟩
def dd15 : He.DefD := ⟨("useful_bits", none), "useful_bits", "useful_bits", defArgs (top 16), defBody (top 16), defScope (top 16), [], []⟩
def dd16 : He.DefD := ⟨("mask_of", none), "mask_of", "mask_of", defArgs (top 5), defBody (top 5), defScope (top 5), [], []⟩
def dd17 : He.DefD := ⟨("makes_of", none), "makes_of", "makes_of", defArgs (top 12), defBody (top 12), defScope (top 12), [], []⟩
def dd18 : He.DefD := ⟨("all_ways", none), "all_ways", "all_ways", defArgs (top 18), defBody (top 18), defScope (top 18), [], []⟩
def dd19 : He.DefD := ⟨("ways_on", none), "ways_on", "ways_on", defArgs (top 17), defBody (top 17), defScope (top 17), [], []⟩
def dd20 : He.DefD := ⟨("behind_bits", none), "behind_bits", "behind_bits", defArgs (top 11), defBody (top 11), defScope (top 11), [], []⟩
def dd21 : He.DefD := ⟨("speaks", none), "speaks", "speaks", defArgs (top 9), defBody (top 9), defScope (top 9), [], []⟩
def dd22 : He.DefD := ⟨("is_in", none), "is_in", "is_in", defArgs (top 7), defBody (top 7), defScope (top 7), [], []⟩
def dd23 : He.DefD := ⟨("priced", none), "priced", "priced", defArgs (top 15), defBody (top 15), defScope (top 15), [], []⟩
def dd24 : He.DefD := ⟨("room_in", none), "room_in", "room_in", defArgs (top 19), defBody (top 19), defScope (top 19), [], []⟩
def dd25 : He.DefD := ⟨("best_way", none), "best_way", "best_way", defArgs (top 20), defBody (top 20), defScope (top 20), [], []⟩
def dd26 : He.DefD := ⟨("_law_lesser", none), "_law_lesser", "_law_lesser", defArgs (top 34), defBody (top 34), defScope (top 34), [], []⟩
def dd27 : He.DefD := ⟨("_law_dearer", none), "_law_dearer", "_law_dearer", defArgs (top 35), defBody (top 35), defScope (top 35), [], []⟩
def dd28 : He.DefD := ⟨("_law_classes", none), "_law_classes", "_law_classes", defArgs (top 36), defBody (top 36), defScope (top 36), [], []⟩
def dd29 : He.DefD := ⟨("_law_from", none), "_law_from", "_law_from", defArgs (top 28), defBody (top 28), defScope (top 28), [], []⟩
def dd30 : He.DefD := ⟨("TooGreat", some "__init__"), "__init__", "TooGreat.__init__", defArgs (clsInit (top 2)), defBody (clsInit (top 2)), defScope (clsInit (top 2)), [], []⟩
def fnD : List He.DefD := [dd0, dd1, dd2, dd3, dd4, dd5, dd6, dd7, dd8, dd9, dd10, dd11, dd12, dd13, dd14, dd15, dd16, dd17, dd18, dd19, dd20, dd21, dd22, dd23, dd24, dd25, dd26, dd27, dd28, dd29, dd30]
def faD : List He.Fa := ([.glo "law", .glo "_law_feed", .glo "_law_cell_at", .glo "_law_drawn", .glo "_law_net", .glo "_law_take", .glo "_law_star", .glo "_law_prices", .glo "_law_stand", .glo "_law_barred", .glo "_law_right", .glo "number_of"] : List He.Fa) ++ ([.glo "best_of", .glo "bits_of", .glo "some_of", .glo "useful_bits", .glo "mask_of", .glo "makes_of", .glo "all_ways", .glo "ways_on", .glo "behind_bits", .glo "speaks", .glo "is_in", .glo "priced"] : List He.Fa) ++ ([.glo "room_in", .glo "best_way", .glo "_law_lesser", .glo "_law_dearer", .glo "_law_classes", .glo "_law_from", .free "range", .free "max", .free "min", .free "len", .free "tuple", .free "list"] : List He.Fa) ++ ([.free "sorted", .free "enumerate", .free "int", .free "sum", .glo "TooGreat", .glo "HuntError", .glo "MOST"] : List He.Fa)
def fxD : List (PySem.W.Frag → Bool) := [fun K => He.tupB K "MOST" [.int 10, .int 6, .int 4, .int 3], fun K => PD.xallB K ["TooGreat"] [] [] ["many"], PD.huntB, fun K => PD.iniB K "TooGreat"]
abbrev RR : PySem.W.OpenRow := PySem.W.OpenLaw.row PySem.Challenge.rw_badbegins_k51_never_more_for_less
abbrev hkD : PySem.W.Hook := PD.hookX 4 fxD faD fnD
def obD (z : PySem.W.SharedT) : He.AlD := PD.obsXG 4 fxD faD fnD (HandSHeadRun.getT z)
theorem obD_eq (z : PySem.W.SharedT) : obD z = hkD.obs z.abs := PD.obsXG_eq (HandSHeadRun.getT_eq z)
def looseD : List Str := (["HuntError", "TooGreat", "bits_of", "mask_of", "some_of", "is_in", "speaks", "behind_bits", "makes_of", "MOST", "priced", "useful_bits"] : List Str) ++ (["ways_on", "all_ways", "room_in", "best_way", "best_of", "number_of", "_law_cell_at", "_law_feed", "_law_take", "_law_net", "_law_from", "_law_stand"] : List Str) ++ (["_law_barred", "_law_prices", "_law_star", "_law_drawn", "_law_lesser", "_law_dearer", "_law_classes", "_law_right"] : List Str)
theorem runD (w : World) : HandSHeadRun.RunEq RR (PySem.W.view RR.prog [38]) hkD obD 4000 looseD w := by
  intro os
  kernel_rfl
theorem envD {K : PySem.W.Frag} {hp : Heap} {mg : Str → Option Value} (X : K.In hp) (G : hp.Ns mainGlobals mg) (c : PD.SaysX fxD faD fnD K) : Env K mg where
  d_p_law := ⟨_, _, (c.d.def_ 0 (d := dd0) rfl).choose_spec, He.glo_ok X G (c.d.fact 0 (f := .glo "law") rfl)⟩
  d_qfeed := ⟨_, _, (c.d.def_ 1 (d := dd1) rfl).choose_spec, He.glo_ok X G (c.d.fact 1 (f := .glo "_law_feed") rfl)⟩
  d_qcell_at := ⟨_, _, (c.d.def_ 2 (d := dd2) rfl).choose_spec, He.glo_ok X G (c.d.fact 2 (f := .glo "_law_cell_at") rfl)⟩
  d_qdrawn := ⟨_, _, (c.d.def_ 3 (d := dd3) rfl).choose_spec, He.glo_ok X G (c.d.fact 3 (f := .glo "_law_drawn") rfl)⟩
  d_qnet := ⟨_, _, (c.d.def_ 4 (d := dd4) rfl).choose_spec, He.glo_ok X G (c.d.fact 4 (f := .glo "_law_net") rfl)⟩
  d_qtake := ⟨_, _, (c.d.def_ 5 (d := dd5) rfl).choose_spec, He.glo_ok X G (c.d.fact 5 (f := .glo "_law_take") rfl)⟩
  d_qstar := ⟨_, _, (c.d.def_ 6 (d := dd6) rfl).choose_spec, He.glo_ok X G (c.d.fact 6 (f := .glo "_law_star") rfl)⟩
  d_qprices := ⟨_, _, (c.d.def_ 7 (d := dd7) rfl).choose_spec, He.glo_ok X G (c.d.fact 7 (f := .glo "_law_prices") rfl)⟩
  d_qstand := ⟨_, _, (c.d.def_ 8 (d := dd8) rfl).choose_spec, He.glo_ok X G (c.d.fact 8 (f := .glo "_law_stand") rfl)⟩
  d_qbarred := ⟨_, _, (c.d.def_ 9 (d := dd9) rfl).choose_spec, He.glo_ok X G (c.d.fact 9 (f := .glo "_law_barred") rfl)⟩
  d_qright := ⟨_, _, (c.d.def_ 10 (d := dd10) rfl).choose_spec, He.glo_ok X G (c.d.fact 10 (f := .glo "_law_right") rfl)⟩
  d_p_number_of := ⟨_, _, (c.d.def_ 11 (d := dd11) rfl).choose_spec, He.glo_ok X G (c.d.fact 11 (f := .glo "number_of") rfl)⟩
  d_p_best_of := ⟨_, _, (c.d.def_ 12 (d := dd12) rfl).choose_spec, He.glo_ok X G (c.d.fact 12 (f := .glo "best_of") rfl)⟩
  d_p_bits_of := ⟨_, _, (c.d.def_ 13 (d := dd13) rfl).choose_spec, He.glo_ok X G (c.d.fact 13 (f := .glo "bits_of") rfl)⟩
  d_p_some_of := ⟨_, _, (c.d.def_ 14 (d := dd14) rfl).choose_spec, He.glo_ok X G (c.d.fact 14 (f := .glo "some_of") rfl)⟩
  d_p_useful_bits := ⟨_, _, (c.d.def_ 15 (d := dd15) rfl).choose_spec, He.glo_ok X G (c.d.fact 15 (f := .glo "useful_bits") rfl)⟩
  d_p_mask_of := ⟨_, _, (c.d.def_ 16 (d := dd16) rfl).choose_spec, He.glo_ok X G (c.d.fact 16 (f := .glo "mask_of") rfl)⟩
  d_p_makes_of := ⟨_, _, (c.d.def_ 17 (d := dd17) rfl).choose_spec, He.glo_ok X G (c.d.fact 17 (f := .glo "makes_of") rfl)⟩
  d_p_all_ways := ⟨_, _, (c.d.def_ 18 (d := dd18) rfl).choose_spec, He.glo_ok X G (c.d.fact 18 (f := .glo "all_ways") rfl)⟩
  d_p_ways_on := ⟨_, _, (c.d.def_ 19 (d := dd19) rfl).choose_spec, He.glo_ok X G (c.d.fact 19 (f := .glo "ways_on") rfl)⟩
  d_p_behind_bits := ⟨_, _, (c.d.def_ 20 (d := dd20) rfl).choose_spec, He.glo_ok X G (c.d.fact 20 (f := .glo "behind_bits") rfl)⟩
  d_p_speaks := ⟨_, _, (c.d.def_ 21 (d := dd21) rfl).choose_spec, He.glo_ok X G (c.d.fact 21 (f := .glo "speaks") rfl)⟩
  d_p_is_in := ⟨_, _, (c.d.def_ 22 (d := dd22) rfl).choose_spec, He.glo_ok X G (c.d.fact 22 (f := .glo "is_in") rfl)⟩
  d_p_priced := ⟨_, _, (c.d.def_ 23 (d := dd23) rfl).choose_spec, He.glo_ok X G (c.d.fact 23 (f := .glo "priced") rfl)⟩
  d_p_room_in := ⟨_, _, (c.d.def_ 24 (d := dd24) rfl).choose_spec, He.glo_ok X G (c.d.fact 24 (f := .glo "room_in") rfl)⟩
  d_p_best_way := ⟨_, _, (c.d.def_ 25 (d := dd25) rfl).choose_spec, He.glo_ok X G (c.d.fact 25 (f := .glo "best_way") rfl)⟩
  d_qlesser := ⟨_, _, (c.d.def_ 26 (d := dd26) rfl).choose_spec, He.glo_ok X G (c.d.fact 26 (f := .glo "_law_lesser") rfl)⟩
  d_qdearer := ⟨_, _, (c.d.def_ 27 (d := dd27) rfl).choose_spec, He.glo_ok X G (c.d.fact 27 (f := .glo "_law_dearer") rfl)⟩
  d_qclasses := ⟨_, _, (c.d.def_ 28 (d := dd28) rfl).choose_spec, He.glo_ok X G (c.d.fact 28 (f := .glo "_law_classes") rfl)⟩
  d_qfrom := ⟨_, _, (c.d.def_ 29 (d := dd29) rfl).choose_spec, He.glo_ok X G (c.d.fact 29 (f := .glo "_law_from") rfl)⟩
  b_range := He.free_ok X G (c.d.fact 30 (f := .free "range") rfl)
  b_max := He.free_ok X G (c.d.fact 31 (f := .free "max") rfl)
  b_min := He.free_ok X G (c.d.fact 32 (f := .free "min") rfl)
  b_len := He.free_ok X G (c.d.fact 33 (f := .free "len") rfl)
  b_tuple := He.free_ok X G (c.d.fact 34 (f := .free "tuple") rfl)
  b_list := He.free_ok X G (c.d.fact 35 (f := .free "list") rfl)
  b_sorted := He.free_ok X G (c.d.fact 36 (f := .free "sorted") rfl)
  b_enumerate := He.free_ok X G (c.d.fact 37 (f := .free "enumerate") rfl)
  b_int := He.free_ok X G (c.d.fact 38 (f := .free "int") rfl)
  b_sum := He.free_ok X G (c.d.fact 39 (f := .free "sum") rfl)
  t_MOST := ⟨(He.glo_ok X G (c.d.fact 42 (f := .glo "MOST") rfl)), fun H => He.tupB_ok (vs := [.int 10, .int 6, .int 4, .int 3]) (c.x 0) H, fun _ _ => (.cons (.int _) (.cons (.int _) (.cons (.int _) (.cons (.int _) .nil))))⟩
  x_all := PD.xall_ok (c.x 1) (PD.all_cons (He.glo_ok X G (c.d.fact 40 (f := .glo "TooGreat") rfl)) PD.all_nil) PD.all_nil PD.all_nil
  hunt := ⟨PD.huntB_ok (c.x 2), (He.glo_ok X G (c.d.fact 41 (f := .glo "HuntError") rfl))⟩
  i_TooGreat := c.d.def_ 30 (d := dd30) rfl
  j_TooGreat := PD.iniB_ok (c.x 3)
theorem lawD {P : Program} {w : World} {K : PySem.W.Frag} {hp : Heap} {mg : Str → Option Value} {f : Addr} (X : K.In hp) (G : hp.Ns mainGlobals mg) (hf : mg ("law" : Str) = some (.ref f)) (c : PD.SaysX fxD faD fnD K) :
    ∃ fd : FuncData, (∀ (z : Shared) (v : Value), BindsTo z fd ⟨[v], []⟩ [("_law_script", v)]) ∧ ∀ base : Heap, FnOk P w K mg base (L2.CX P w) 9 f fd ["_law_script"] (spU K mg u_p_law) := by
  obtain ⟨fd, F⟩ := c.d.def_ 0 (d := dd0) rfl
  have e := hf.symm.trans (He.glo_ok X G (c.d.fact 0 (f := .glo "law") rfl))
  cases e
  have b := FunD.bindsA (ps := ["_law_script"]) F fun _ _ _ _ _ _ us hl => match us, hl with | [_], _ => rfl
  exact ⟨fd, fun z v => b z [v] rfl, fun base => fo_p_law (envD X G c) F⟩
theorem spD {K : PySem.W.Frag} {mg : Str → Option Value} {H : Hp} {a : Addr} {ns : List Int} (hl : ns.length ≤ 63) (hS : SqL K H a (ns.map V.int)) : spU K mg u_p_law [.ref a] H (fun v _ => v = .bl true) fun _ _ _ => False := spU_law (law_true ns hl) hS
theorem walkD {l : PySem.W.OpenLaw} {n k : Nat} {q : Program} {loose : List Str} {XP : (Str → Option Value) → Heap → Prop} {YP : World → Heap → Prop} {d : DefRec} {x : Str} (hn : l.most = some n) (hn2 : n ≤ sizeLine) (hdf : d.params.defaults = []) (hr : Room k callerA)
    (F : ∀ (w : World) (mg : Str → Option Value) (fa : Addr) (h : Heap), YP w h → h.Ns mainGlobals mg → mg d.name = some (.ref fa) →
      ∃ (K : PySem.W.Frag) (fd : FuncData) (sp : Sp), K.In h ∧ (∀ (z : Shared) (u : Value), BindsTo z fd ⟨[u], []⟩ [(x, u)]) ∧
        (∀ (H : Hp) (a : Addr) (ns : List Int), ns.length ≤ n → Only H → SqL K H a (ns.map V.int) → sp [.ref a] H (fun v _ => v = .bl true) fun _ _ _ => False) ∧
        ∀ base : Heap, K.In base → base.Ns mainGlobals mg → FnOk l.prog w K mg base (L2.CX l.prog w) k fa fd [x] sp) :
    PySem.W.WalkO q loose XP YP l.row.toRowW d [] (fun f vs => PySem.call f vs) := by
  refine Att.attach_call hn hdf fun w s0 s1 mg mb fa o pm cd doc a vs ns G Y ho hd hcd hmg hobj hints hlen hg => ?_
  obtain ⟨K, fd, sp, KX, hb, hsp, hF⟩ := F w mg fa _ Y G.T.g hmg
  exact law_call KX G.T.g G.T.b G.T.builtins G.T.nolimit hg hobj hints (Nat.le_trans hlen hn2) hr hF hb (fun H hO hS => hsp H a ns hlen hO hS) fun H e s' ⟨_, _, _, _, _, _, _, _, _, _, _, _, z⟩ => z
end PDW
open PySem PySem.W PySem.Calls PyProof.Rows
theorem PySem.Challenge.cw_badbegins_k51_never_more_for_less_holds : PySem.Challenge.rw_badbegins_k51_never_more_for_less.Holds := by
  w_on; o_law
  refine HandSHeadRun.head_any (r := OpenLaw.row PySem.Challenge.rw_badbegins_k51_never_more_for_less) (q := view (OpenLaw.row PySem.Challenge.rw_badbegins_k51_never_more_for_less).prog [38]) (H := PDW.hkD) (ob := PDW.obD) (M := 4000) (loose := PDW.looseD) (d := HandSHeadRun.topDef (OpenLaw.row PySem.Challenge.rw_badbegins_k51_never_more_for_less).prog 38) (kwd := []) PDW.obD_eq
    (by kernel_rfl) (fun z => by kernel_rfl) PDW.runD (by kernel_rfl) (by kernel_rfl) (by kernel_rfl) (by rfl) (by first | assumption | decide +kernel) (by decide +kernel) ⟨rfl, rfl, rfl, rfl, rfl, by decide +kernel⟩ ?hw ?hc
  case hw => w_witness2
  case hc =>
    refine PDW.walkD (l := PySem.Challenge.rw_badbegins_k51_never_more_for_less) (n := 63) (k := 9) (x := "_law_script") rfl (by decide) (by kernel_rfl) ⟨rfl, by decide, by decide⟩ ?F
    intro w mg fa hp Y G hmg0
    obtain ⟨K, KX, c⟩ := Y
    have hmg : mg ("law" : PySem.Str) = some (.ref fa) := by
      have e : (HandSHeadRun.topDef (OpenLaw.row PySem.Challenge.rw_badbegins_k51_never_more_for_less).prog 38).name = ("law" : PySem.Str) := by kernel_rfl
      rw [← e]
      exact hmg0
    obtain ⟨fd, hb, hF⟩ := PDW.lawD (P := PySem.Challenge.rw_badbegins_k51_never_more_for_less.prog) (w := w) KX G hmg c
    exact ⟨K, fd, _, KX, hb, fun H a ns hl _ hS => PDW.spD hl hS, fun base _ _ => hF base⟩
