import PyProof.Rows.All
import Wide.All
import OpenK.AllK
import Wide.FinOn
import KE.KStateDown
import KE.KDictKeyed
import KE.KSortedAny
import KE.SortData
import HandS.ForMost
import HandS.ForExc
import HandS.TryMany
import HandS.ExcInit
import HandS.ExcField
import HandS.CallSlots
import HandS.NoneIn
import HandS.Conv
import HandS.TupAny
import HandS.IsInst
import HandS.Flow
import HandS.SortInts
import HandS.Zip
import HandS.Defaults
import HandS.More
import HandS.Head0
import HandS.Head1
import HandS.Head2
import HandS.HeadEnd
import HandS.HeadHook1
import HandS.HeadHook2
import PySem.Challenge.RW_makeswood_k98_whole_roads_that_stop

set_option Elab.async false
set_option linter.all false
set_option maxRecDepth 100000
set_option maxHeartbeats 4000000

/-! The places of the defs in the row's top. -/
namespace Mw
open PySem L2
def top (i : Nat) : Stmt := PySem.Challenge.pw_makeswood_k98_whole_roads_that_stop.main.body.getD i (.Pass ⟨0, 0, 0, 0⟩)
abbrev sNoMakeInit : Stmt := (inClass (top 4) 0)
abbrev sNoNameInit : Stmt := (inClass (top 5) 0)
abbrev sLineOf : Stmt := (top 7)
abbrev sAlikeMakes : Stmt := (top 9)
abbrev sLacking : Stmt := (top 10)
abbrev sRoadInit : Stmt := (inClass (top 11) 0)
abbrev sRoadStep : Stmt := (inClass (top 11) 1)
abbrev sRoadHasEnded : Stmt := (inClass (top 11) 2)
abbrev sComeTo : Stmt := (top 13)
abbrev sWrittenText : Stmt := (top 15)
abbrev sWrittenClash : Stmt := (top 16)
abbrev sWrittenWhere : Stmt := (top 17)
abbrev sWrittenItem : Stmt := (top 18)
abbrev sWrittenItems : Stmt := (top 19)
abbrev sIsTextOf : Stmt := (top 27)
abbrev sIsLine : Stmt := (top 28)
abbrev sIsWord : Stmt := (top 29)
abbrev sIsPath : Stmt := (top 30)
abbrev sIsRoot : Stmt := (top 31)
abbrev sIsClash : Stmt := (top 32)
abbrev sIsItem : Stmt := (top 33)
abbrev sIsItems : Stmt := (top 34)
abbrev sIsPlace : Stmt := (top 35)
abbrev sIsWhere : Stmt := (top 36)
abbrev sIsRow : Stmt := (top 37)
abbrev sIsStand : Stmt := (top 38)
abbrev sWoodInit : Stmt := (inClass (top 40) 0)
abbrev sWoodIsThere : Stmt := (inClass (top 40) 1)
abbrev sWoodMakeAt : Stmt := (inClass (top 40) 2)
abbrev sWoodPut : Stmt := (inClass (top 40) 3)
abbrev sWoodStandOf : Stmt := (inClass (top 40) 4)
abbrev sWoodEldersOf : Stmt := (inClass (top 40) 5)
abbrev sWoodWordsOf : Stmt := (inClass (top 40) 6)
abbrev sWoodMakes : Stmt := (inClass (top 40) 7)
abbrev sWoodNumberOf : Stmt := (inClass (top 40) 8)
abbrev sWoodSetName : Stmt := (inClass (top 40) 9)
abbrev sWoodNamed : Stmt := (inClass (top 40) 10)
abbrev sWoodDropName : Stmt := (inClass (top 40) 11)
abbrev sWoodNames : Stmt := (inClass (top 40) 12)
abbrev sWoodLetGo : Stmt := (inClass (top 40) 13)
abbrev sLawCellAt : Stmt := (top 42)
abbrev sLawFeed : Stmt := (top 43)
abbrev sLawTake : Stmt := (top 44)
abbrev sLawWords : Stmt := (top 45)
abbrev sLawWritten : Stmt := (top 46)
abbrev sLawItems : Stmt := (top 47)
abbrev sLawWhere : Stmt := (top 48)
abbrev sLawStand : Stmt := (top 49)
abbrev sLawId : Stmt := (top 50)
abbrev sLawPut : Stmt := (top 51)
abbrev sLawModel : Stmt := (top 52)
abbrev sLawElders : Stmt := (top 53)
abbrev sLawLine : Stmt := (top 54)
abbrev sLawIsWood : Stmt := (top 55)
abbrev sLawAlike : Stmt := (top 56)
abbrev sLawPutIn : Stmt := (top 57)
abbrev sLawPutInBoth : Stmt := (top 58)
abbrev sLawPutSome : Stmt := (top 59)
abbrev sLawLacking : Stmt := (top 60)
abbrev sLawStep : Stmt := (top 61)
abbrev sLawNamed : Stmt := (top 62)
abbrev sLawLetGo : Stmt := (top 63)
abbrev sLawStepped : Stmt := (top 64)
abbrev sLawDeed : Stmt := (top 65)
abbrev sLawBrought : Stmt := (top 66)
abbrev sLawWholeWoods : Stmt := (top 67)
abbrev sLaw : Stmt := (top 68)
end Mw

/-! Heaps that are kept but at some places; data; dicts whose keys are nested tuples; further rules. -/
namespace Mw
open PySem PySem.Spec PyProof.Rows L2

/-! ### what is kept -/
/-- what is never written -/
def Kpt : HO → Prop
  | .tup _ => True
  | .own _ => True
  | .frz _ _ => True
  | _ => False
/-- all that is tracked is as it was, but at S -/
def Kp (S : List Addr) (H H' : Hp) : Prop := ∀ b o, H b = some o → (b ∉ S ∨ Kpt o) → H' b = some o
section
variable {S T : List Addr} {H H1 H2 H' : Hp} {a p b : Addr} {o u : HO}
theorem Kp.refl : Kp S H H := fun _ _ h _ => h
theorem Kp.trans (x : Kp S H H1) (y : Kp S H1 H2) : Kp S H H2 := fun b o h k => y b o (x b o h k) k
theorem Kp.mono (x : Kp S H H1) (h : ∀ b ∈ S, b ∈ T) : Kp T H H1 := fun b o e k => x b o e (k.imp (fun n m => n (h b m)) id)
theorem Kp.same (x : Same H H1) : Kp S H H1 := fun b o h _ => x b o h
theorem Kp.to_same (x : Kp [] H H1) : Same H H1 := fun b o h => x b o h (.inl (by simp))
theorem Kp.put (h : H a = some u) (nk : ¬ Kpt u) (ha : a ∈ S) : Kp S H (upd H a o) := fun b v e k => by
  by_cases hb : b = a
  · subst hb
    rw [h] at e
    cases e
    exact absurd k (fun z => z.elim (fun n => n ha) nk)
  · rw [upd_ne hb]
    exact e
theorem Same.new (h : H p = none) : Same H (upd H p o) := fun b v e => by
  rw [upd_ne (ne_of_none e h)]
  exact e
theorem Kp.new (h : H p = none) : Kp S H (upd H p o) := .same (Same.new h)
/-- a new object may be written -/
theorem Kp.off (x : Kp (p :: S) H H1) (h : H p = none) : Kp S H H1 := fun b o e k => x b o e (k.imp (fun n m => by
  rcases List.mem_cons.mp m with z | z
  · rw [z, h] at e
    cases e
  · exact n z) id)
theorem Kp.off_trans (s : Kp S H H1) (h : H p = none) (x : Kp (p :: S) H1 H2) : Kp S H H2 := fun b o e k => x b o (s b o e k) (k.imp (fun n m => by
  rcases List.mem_cons.mp m with z | z
  · rw [z, h] at e
    cases e
  · exact n z) id)
theorem Kp.at (x : Kp S H H1) (h : H a = some o) (n : a ∉ S) : H1 a = some o := x a o h (.inl n)
theorem Kp.tup {xs : List V} (x : Kp S H H1) (h : H a = some (.tup xs)) : H1 a = some (.tup xs) := x a _ h (.inr True.intro)
theorem Kp.none (x : Kp S H H1) (h : H1 a = none) (n : a ∉ S) : H a = none := by
  cases q : H a with
  | none => rfl
  | some o =>
    rw [x a o q (.inl n)] at h
    cases h
theorem Same.tup {xs : List V} (x : Same H H1) (h : H a = some (.tup xs)) : H1 a = some (.tup xs) := x _ _ h
theorem Same.sq {K : PySem.W.Frag} {xs : List V} (e : Same H H1) (h : SqL K H a xs) : SqL K H1 a xs := e.seq h
theorem Kp.sq {K : PySem.W.Frag} {xs : List V} (e : Kp S H H1) (h : SqL K H a xs) (n : a ∉ S) : SqL K H1 a xs := by
  rcases h with (h | ⟨o, h⟩) | h
  · exact .inl (.inl (e _ _ h (.inl n)))
  · exact .inl (.inr ⟨o, e _ _ h (.inr True.intro)⟩)
  · exact .inr h
end
/-- a new object: the heap behind it has a name -/
theorem new_of {Q : V → Hp → Prop} {H : Hp} {o : HO} (h : ∀ p H1, Same H H1 → H1 p = some o → H p = none → Q (.ref p) H1) : ∀ p, H p = none → Q (.ref p) (upd H p o) :=
  fun p n => h p _ (Same.new n) upd_same n
/-- .. and it is a heap with it -/
theorem new_ofU {Q : V → Hp → Prop} {H : Hp} {o : HO} (h : ∀ p, H p = none → Same H (upd H p o) → (upd H p o) p = some o → Q (.ref p) (upd H p o)) : ∀ p, H p = none → Q (.ref p) (upd H p o) :=
  fun p n => h p n (Same.new n) upd_same

/-! ### data -/
mutual
/-- v is the datum k -/
def Dt (H : Hp) : NestedKey → V → Prop
  | .none, v => v = .non
  | .num i, v => v = .int i
  | .text x, v => v = .str x
  | .tup ks, v => ∃ a vs, v = .ref a ∧ H a = some (.tup vs) ∧ DtAll H ks vs
def DtAll (H : Hp) : List NestedKey → List V → Prop
  | [], vs => vs = []
  | k :: ks, vs => ∃ v r, vs = v :: r ∧ Dt H k v ∧ DtAll H ks r
end
mutual
theorem Dt.mono {H H' : Hp} (k : ∀ b xs, H b = some (.tup xs) → H' b = some (.tup xs)) : ∀ (d : NestedKey) (v : V), Dt H d v → Dt H' d v
  | .none, _, h => h
  | .num _, _, h => h
  | .text _, _, h => h
  | .tup ks, _, h => by
    obtain ⟨a, vs, e, ha, hs⟩ := h
    exact ⟨a, vs, e, k _ _ ha, DtAll.mono k ks vs hs⟩
theorem DtAll.mono {H H' : Hp} (k : ∀ b xs, H b = some (.tup xs) → H' b = some (.tup xs)) : ∀ (ds : List NestedKey) (vs : List V), DtAll H ds vs → DtAll H' ds vs
  | [], _, h => h
  | d :: ds, _, h => by
    obtain ⟨v, r, e, h1, h2⟩ := h
    exact ⟨v, r, e, Dt.mono k d v h1, DtAll.mono k ds r h2⟩
end
section
variable {S : List Addr} {H H' : Hp} {d : NestedKey} {ds : List NestedKey} {v : V} {vs : List V}
theorem Dt.kp (h : Dt H d v) (k : Kp S H H') : Dt H' d v := h.mono fun b xs e => k.tup e
theorem Dt.same (h : Dt H d v) (k : Same H H') : Dt H' d v := h.mono fun b xs e => k _ _ e
theorem DtAll.kp (h : DtAll H ds vs) (k : Kp S H H') : DtAll H' ds vs := h.mono fun b xs e => k.tup e
theorem DtAll.same (h : DtAll H ds vs) (k : Same H H') : DtAll H' ds vs := h.mono fun b xs e => k _ _ e
theorem DtAll.cons1 {d : NestedKey} {v : V} (h : Dt H d v) (hs : DtAll H ds vs) : DtAll H (d :: ds) (v :: vs) := ⟨v, vs, rfl, h, hs⟩
theorem DtAll.nil1 : DtAll H [] [] := rfl
theorem Dt.tup1 {a : Addr} (h : H a = some (.tup vs)) (hs : DtAll H ds vs) : Dt H (.tup ds) (.ref a) := ⟨a, vs, rfl, h, hs⟩
theorem DtAll.length : ∀ {ds : List NestedKey} {vs : List V}, DtAll H ds vs → vs.length = ds.length
  | [], _, h => by
    rw [show _ = [] from h]
    rfl
  | d :: ds, _, h => by
    obtain ⟨v, r, rfl, _, h2⟩ := h
    rw [List.length_cons, List.length_cons, DtAll.length h2]
theorem DtAll.get : ∀ {ds : List NestedKey} {vs : List V} {i : Nat} {v : V}, DtAll H ds vs → vs[i]? = some v → ∃ d, ds[i]? = some d ∧ Dt H d v
  | [], _, i, v, h, e => by
    rw [show _ = [] from h] at e
    simp at e
  | d :: ds, _, 0, v, h, e => by
    obtain ⟨w, r, rfl, h1, _⟩ := h
    have e2 : w = v := by simpa using e
    subst e2
    exact ⟨d, rfl, h1⟩
  | d :: ds, _, i + 1, v, h, e => by
    obtain ⟨w, r, rfl, _, h2⟩ := h
    exact DtAll.get (i := i) h2 (by simpa using e)
theorem DtAll.append : ∀ {ds es : List NestedKey} {vs ws : List V}, DtAll H ds vs → DtAll H es ws → DtAll H (ds ++ es) (vs ++ ws)
  | [], _, _, _, h, g => by
    rw [show _ = [] from h]
    exact g
  | d :: ds, es, _, ws, h, g => by
    obtain ⟨v, r, rfl, h1, h2⟩ := h
    exact ⟨v, r ++ ws, rfl, h1, DtAll.append h2 g⟩
theorem DtAll.nums : ∀ ns : List Int, DtAll H (ns.map .num) (ns.map V.int)
  | [] => rfl
  | _ :: ns => ⟨_, _, rfl, rfl, DtAll.nums ns⟩
theorem DtAll.texts : ∀ xs : List Str, DtAll H (xs.map .text) (xs.map V.str)
  | [] => rfl
  | _ :: xs => ⟨_, _, rfl, rfl, DtAll.texts xs⟩
theorem DtAll.texts_inv : ∀ {xs : List Str} {vs : List V}, DtAll H (xs.map .text) vs → vs = xs.map V.str
  | [], _, h => h
  | x :: xs, _, h => by
    obtain ⟨v, r, rfl, h1, h2⟩ := h
    rw [show v = .str x from h1, DtAll.texts_inv h2]
    rfl
end
mutual
theorem Dt.is {P : Program} {w : World} {H : Hp} {h : Heap} (ok : HOk P w H h) : ∀ (d : NestedKey) (v : V) (u : Value), Dt H d v → RelV v u → NestedIs h d u
  | .none, _, _, e, r => by
    rw [show _ = V.non from e] at r
    cases (show _ = Value.none from r)
    exact .none
  | .num i, _, _, e, r => by
    rw [show _ = V.int i from e] at r
    obtain ⟨t, rfl⟩ := r
    exact .int i t
  | .text x, _, _, e, r => by
    rw [show _ = V.str x from e] at r
    obtain ⟨t, rfl⟩ := r
    exact .text x t
  | .tup ks, _, _, e, r => by
    obtain ⟨a, vs, rfl, ha, hs⟩ := e
    cases (show _ = Value.ref a from r)
    obtain ⟨_, its, rv, o, h1, h2, n, h3⟩ := (show ObjOk P w H h a (.tup vs) from ok a _ ha)
    exact .tup h1 h2 h3 (by simpa using Dt.isAll ok ks vs its hs rv)
theorem Dt.isAll {P : Program} {w : World} {H : Hp} {h : Heap} (ok : HOk P w H h) : ∀ (ds : List NestedKey) (vs : List V) (us : List Value), DtAll H ds vs → Vals vs us → NestedAll h ds us
  | [], _, _, e, r => by
    rw [show _ = [] from e] at r
    cases r
    exact .nil
  | d :: ds, _, _, e, r => by
    obtain ⟨v, vr, rfl, h1, h2⟩ := e
    cases r with
    | cons r1 r2 => exact .cons (Dt.is ok d v _ h1 r1) (Dt.isAll ok ds vr _ h2 r2)
end
mutual
theorem Dt.dp {K : PySem.W.Frag} {H : Hp} : ∀ (d : NestedKey) (v : V), Dt H d v → Dp K H v d.data
  | .none, _, e => by
    rw [show _ = V.non from e]
    exact .non
  | .num i, _, e => by
    rw [show _ = V.int i from e]
    exact .int i
  | .text x, _, e => by
    rw [show _ = V.str x from e]
    exact .str x
  | .tup ks, _, e => by
    obtain ⟨a, vs, rfl, ha, hs⟩ := e
    exact .tup (SqT.of ha) (Dt.dpAll ks vs hs)
theorem Dt.dpAll {K : PySem.W.Frag} {H : Hp} : ∀ (ds : List NestedKey) (vs : List V), DtAll H ds vs → DpAll K H vs (NestedKey.datas ds)
  | [], _, e => by
    rw [show _ = [] from e]
    exact .nil
  | d :: ds, _, e => by
    obtain ⟨v, r, rfl, h1, h2⟩ := e
    exact .cons (Dt.dp d v h1) (Dt.dpAll ds r h2)
end

/-! ### dicts whose keys are nested tuples, the values whole numbers -/
abbrev NEnt : Type := NestedKey × Addr × Int
/-- the value at a key -/
def nval (xs : List NEnt) (k : NestedKey) : Option Int := (xs.find? fun x => decide (x.1 = k)).map (·.2.2)
def ndrop (xs : List NEnt) (k : NestedKey) : List NEnt := xs.filter fun x => !decide (x.1 = k)
abbrev NR : List NEnt → List (NestedKey × Addr × Value) → Prop := Paired fun p q => p.1 = q.1 ∧ p.2.1 = q.2.1 ∧ RelV (.int p.2.2) q.2.2
/-- the object -/
def NdO (P : Program) (w : World) (d : Addr) (xs : List NEnt) : HO := .ext fun h => (d == sysModules) = false ∧ ∃ (ys : List (NestedKey × Addr × Value)) (o : Obj) (es : Array DictEntry) (ep : Nat), NR xs ys ∧ h.get? d = some o ∧ o.ExactDict ∧ o.data = .dict es ep ∧ es.toList = ys.map (entryOfKey (nestedKind P w)) ∧ (ys.map (·.1)).Nodup
theorem NdO_ok {P : Program} {w : World} {H : Hp} {h : Heap} {d : Addr} {xs : List NEnt} {ys : List (NestedKey × Addr × Value)} (hd : (d == sysModules) = false) (r : NR xs ys) (m : h.DictOfH (nestedKind P w) d ys) : ObjOk P w H h d (NdO P w d xs) := by
  obtain ⟨o, es, ep, h1, h2, h3, h4, _, h5⟩ := m
  exact ⟨⟨hd, ys, o, es, ep, r, h1, h2, h3, h4, h5⟩, ⟨o, h1⟩, fun g1 g2 z k => by
    obtain ⟨hd, ys, o, es, ep, r, h1, h2⟩ := z
    exact ⟨hd, ys, o, es, ep, r, k o h1, h2⟩⟩
/-- the dict at d holds these: each key's tuple stands -/
structure NdAt (P : Program) (w : World) (H : Hp) (d : Addr) (xs : List NEnt) : Prop where
  at_ : H d = some (NdO P w d xs)
  keys : ∀ x ∈ xs, Dt H x.1 (.ref x.2.1) ∧ x.1.depth ≤ 8
  few : xs.length < sizeLine
theorem nkpt {P : Program} {w : World} {d : Addr} {xs : List NEnt} : ¬ Kpt (NdO P w d xs) := fun z => z
theorem NdAt.kp {P : Program} {w : World} {H H' : Hp} {d : Addr} {xs : List NEnt} {S : List Addr} (x : NdAt P w H d xs) (k : Kp S H H') (n : d ∉ S) : NdAt P w H' d xs :=
  ⟨k.at x.at_ n, fun y hy => ⟨(x.keys y hy).1.kp k, (x.keys y hy).2⟩, x.few⟩
theorem NdAt.same {P : Program} {w : World} {H H' : Hp} {d : Addr} {xs : List NEnt} (x : NdAt P w H d xs) (k : Same H H') : NdAt P w H' d xs := x.kp (S := []) (.same k) (by simp)
theorem NR.mem {xs : List NEnt} {ys : List (NestedKey × Addr × Value)} (r : NR xs ys) : ∀ y ∈ ys, ∃ x ∈ xs, x.1 = y.1 ∧ x.2.1 = y.2.1 := by
  induction r with
  | nil => intro y hy; cases hy
  | @cons p q ps qs h t ih =>
    intro y hy
    rcases List.mem_cons.mp hy with e | hy
    · subst e
      exact ⟨p, List.mem_cons_self, h.1, h.2.1⟩
    · obtain ⟨x, hx, e⟩ := ih y hy
      exact ⟨x, List.mem_cons_of_mem _ hx, e⟩
theorem NR.val {xs : List NEnt} {ys : List (NestedKey × Addr × Value)} (r : NR xs ys) (k : NestedKey) : RelO ((nval xs k).map V.int) ((atKey ys k).map (·.2)) := by
  induction r with
  | nil => exact True.intro
  | @cons p q ps qs h t ih =>
    obtain ⟨h1, _, h2⟩ := h
    by_cases e : p.1 = k
    · have e2 : q.1 = k := h1.symm.trans e
      have a1 : nval (p :: ps) k = some p.2.2 := by simp [nval, List.find?_cons, e]
      have a2 : atKey (q :: qs) k = some q.2 := by simp [atKey, List.find?_cons, e2]
      rw [a1, a2]
      exact h2
    · have e2 : ¬ q.1 = k := fun z => e (h1.trans z)
      have a1 : nval (p :: ps) k = nval ps k := by simp [nval, List.find?_cons, e]
      have a2 : atKey (q :: qs) k = atKey qs k := by simp [atKey, List.find?_cons, e2]
      rw [a1, a2]
      exact ih
theorem NR.drop {xs : List NEnt} {ys : List (NestedKey × Addr × Value)} (r : NR xs ys) (k : NestedKey) : NR (ndrop xs k) (withoutH ys k) := by
  induction r with
  | nil => exact .nil
  | @cons p q ps qs h t ih =>
    by_cases e : p.1 = k
    · have e2 : q.1 = k := h.1.symm.trans e
      have a1 : ndrop (p :: ps) k = ndrop ps k := by simp [ndrop, List.filter_cons, e]
      have a2 : withoutH (q :: qs) k = withoutH qs k := by simp [withoutH, List.filter_cons, e2]
      rw [a1, a2]
      exact ih
    · have e2 : ¬ q.1 = k := fun z => e (h.1.trans z)
      have a1 : ndrop (p :: ps) k = p :: ndrop ps k := by simp [ndrop, List.filter_cons, e]
      have a2 : withoutH (q :: qs) k = q :: withoutH qs k := by simp [withoutH, List.filter_cons, e2]
      rw [a1, a2]
      exact .cons h ih
theorem NR.snoc {xs : List NEnt} {ys : List (NestedKey × Addr × Value)} (r : NR xs ys) {k : NestedKey} {b : Addr} {i : Int} {u : Value} (ru : RelV (.int i) u) : NR (xs ++ [(k, b, i)]) (ys ++ [(k, b, u)]) := by
  induction r with
  | nil => exact .cons ⟨rfl, rfl, ru⟩ .nil
  | cons h t ih => exact .cons h ih
section
variable {X : Cx} {pins : List (Addr × Obj)} {σ : L2.St} {H : Hp} {s : Shared} {d b : Addr} {k : NestedKey} {xs : List NEnt} {u : Value} {A : Around} {E : Value → Shared → Prop}
theorem nd_of (I : Inv X pins σ H s) (m : NdAt X.prog X.w H d xs) : (d == sysModules) = false ∧ ∃ ys, NR xs ys ∧ s.heap.DictOfH (nestedKind X.prog X.w) d ys := by
  obtain ⟨⟨hd, ys, o, es, ep, r, h1, h2, h3, h4, h5⟩, _⟩ := (show ObjOk X.prog X.w H s.heap d (NdO X.prog X.w d xs) from I.hok d _ m.at_)
  refine ⟨hd, ys, r, o, es, ep, h1, h2, h3, h4, fun y hy => ?_, h5⟩
  obtain ⟨x, hx, e1, e2⟩ := r.mem y hy
  obtain ⟨k1, k2⟩ := m.keys x hx
  rw [← e1, ← e2]
  exact ⟨Dt.is I.hok _ _ _ k1 rfl, k2⟩
theorem nd_key (I : Inv X pins σ H s) (hk : Dt H k (.ref b)) (dp : k.depth ≤ 8) : (nestedKind X.prog X.w).is s.heap k b := ⟨Dt.is I.hok _ _ _ hk rfl, dp⟩
theorem nd_write {h' : Heap} {t' : Nat} {zs : List NEnt} (I : Inv X pins σ H s) (m : NdAt X.prog X.w H d xs) (hs : Heap.SameBut d s.heap h') {ys : List (NestedKey × Addr × Value)} (hd : (d == sysModules) = false) (r : NR zs ys) (m2 : h'.DictOfH (nestedKind X.prog X.w) d ys) :
    Inv X pins σ (upd H d (NdO X.prog X.w d zs)) { s with heap := h', toks := t' } := by
  have he : ∃ q, h'.get? d = some q := by
    obtain ⟨o, _, _, h1, _⟩ := m2
    exact ⟨o, h1⟩
  refine I.write (x := d) (e := d) (by rw [m.at_]; exact True.intro) (.inl rfl) (fun b q hb z => (hs.2 b hb).trans z) he (NdO_ok hd r m2)
/-- a new one -/
theorem pe_dnewN {pos : Pos} : PE X (.Dict [] [] pos) (fun _ H Q => ∀ p, H p = none → Q (.ref p) (upd H p (NdO X.prog X.w p []))) := ⟨fun pins s σ H Q I h =>
  wpAny_Dict_empty ⟨.ref s.heap.objs.size, _, I.laid (a := s.heap.objs.size) (o := NdO X.prog X.w s.heap.objs.size []) (t' := s.toks) (fun _ _ q => Heap.get?_push_of_some _ q) (Nat.le_refl _)
    (NdO_ok (beq_eq_false_iff_ne.mpr (Ne.symm (Nat.ne_of_lt I.big))) .nil (Heap.DictOfH.new s.heap)), rfl, h _ (I.hok.fresh (Nat.le_refl _))⟩⟩
variable {o i e value : Expr} {pos pos' : Pos} {td ty tv : TE}
/-- k in d -/
theorem pc_nin (hu : X.A.units + 64 < cLine) (hi : PE X i ty) (ho : PE X o td) : PC X .In i o (fun σ H Q => ty σ H fun y H1 => td σ H1 fun x H2 => ∃ a b xs k, x = .ref a ∧ y = .ref b ∧ NdAt X.prog X.w H2 a xs ∧ Dt H2 k (.ref b) ∧ k.depth ≤ 8 ∧ Q (.bl (nval xs k).isSome) H2) := by
  refine ⟨fun pins s σ H Q I h => ?_⟩
  refine thn (hi.run pins s σ H _ I h) fun iv s1 ⟨y, H1, I1, ry, q1⟩ => thn (ho.run pins s1 σ H1 _ I1 q1) fun u s2 ⟨x, H2, I2, rx, a, b, xs, k, ex, ey, m, hk, dp, q2⟩ => ?_
  subst ex ey
  obtain rfl : u = Value.ref a := rx
  obtain rfl : iv = Value.ref b := ry
  obtain ⟨hd, ys, r, mm⟩ := nd_of I2 m
  refine wpAny_in_heap (knd := nestedKind X.prog X.w) (by show X.A.units + 1 + 8 < cLine; omega) (nd_key I2 hk dp) hd mm ?_
  have q := (r.val k).isSome_eq
  rw [Option.isSome_map, Option.isSome_map] at q
  rw [← q]
  exact ⟨.bl _, H2, I2.tok _, rfl, q2⟩
/-- k not in d -/
theorem pc_nnotin (hu : X.A.units + 64 < cLine) (hi : PE X i ty) (ho : PE X o td) : PC X .NotIn i o (fun σ H Q => ty σ H fun y H1 => td σ H1 fun x H2 => ∃ a b xs k, x = .ref a ∧ y = .ref b ∧ NdAt X.prog X.w H2 a xs ∧ Dt H2 k (.ref b) ∧ k.depth ≤ 8 ∧ Q (.bl (!(nval xs k).isSome)) H2) := by
  refine ⟨fun pins s σ H Q I h => ?_⟩
  refine thn (hi.run pins s σ H _ I h) fun iv s1 ⟨y, H1, I1, ry, q1⟩ => thn (ho.run pins s1 σ H1 _ I1 q1) fun u s2 ⟨x, H2, I2, rx, a, b, xs, k, ex, ey, m, hk, dp, q2⟩ => ?_
  subst ex ey
  obtain rfl : u = Value.ref a := rx
  obtain rfl : iv = Value.ref b := ry
  obtain ⟨hd, ys, r, mm⟩ := nd_of I2 m
  refine wpAny_notIn_heap (knd := nestedKind X.prog X.w) (by show X.A.units + 1 + 8 < cLine; omega) (nd_key I2 hk dp) hd mm ?_
  have q := (r.val k).isSome_eq
  rw [Option.isSome_map, Option.isSome_map] at q
  rw [← q]
  exact ⟨.bl _, H2, I2.tok _, rfl, q2⟩
/-- d[k], there -/
theorem pe_nget (hu : X.A.units + 64 < cLine) (ho : PE X o td) (hi : PE X i ty) (hs : NoSl i) : PE X (.Subscript o i pos) (fun σ H Q => td σ H fun x H1 => ty σ H1 fun y H2 => ∃ a b xs k v, x = .ref a ∧ y = .ref b ∧ NdAt X.prog X.w H2 a xs ∧ Dt H2 k (.ref b) ∧ k.depth ≤ 8 ∧ nval xs k = some v ∧ Q (.int v) H2) := by
  refine ⟨fun pins s σ H Q I h => ?_⟩
  refine subD_of PySem.F.slot_dict_getitem.lookup hs (thn (ho.run pins s σ H _ I h) fun u s1 ⟨x, H1, I1, rx, q1⟩ => thn (hi.run pins s1 σ H1 _ I1 q1) fun iv s2 ⟨y, H2, I2, ry, a, b, xs, k, v, ex, ey, m, hk, dp, l, q2⟩ => ?_)
  subst ex ey
  obtain rfl : u = Value.ref a := rx
  obtain rfl : iv = Value.ref b := ry
  obtain ⟨hd, ys, r, mm⟩ := nd_of I2 m
  have q := r.val k
  rw [l] at q
  obtain ⟨w', hw, rw'⟩ := RelO.some_of q
  obtain ⟨p, hp, hp2⟩ := Option.map_eq_some_iff.mp hw
  refine ⟨mm.typeIs, wpAny_getItem_heap (knd := nestedKind X.prog X.w) (by show X.A.units + 1 + 8 < cLine; omega) (nd_key I2 hk dp) mm hp ?_⟩
  rw [hp2]
  exact ⟨.int v, H2, I2.tok _, rw', q2⟩
/-- d[k] = v, k not there -/
theorem ps_nput (hu : X.A.units + 64 < cLine) (ho : PE X o td) (hi : PE X i ty) (hv : PE X value tv) (hs : swapsWith value (some (.Subscript o i pos')) pos.line X.env = pure false) :
    PS X (.Assign [.Subscript o i pos'] value pos) (fun D σ H => tv σ H fun v H1 => td σ H1 fun x H2 => ty σ H2 fun y H3 => ∃ a b xs k n, x = .ref a ∧ y = .ref b ∧ v = .int n ∧ NdAt X.prog X.w H3 a xs ∧ Dt H3 k (.ref b) ∧ k.depth ≤ 8 ∧ nval xs k = none ∧
      D.nx σ (upd H3 a (NdO X.prog X.w a (xs ++ [(k, b, n)])))) := by
  refine ⟨fun pins s σ H D I h => ?_⟩
  refine wpAny_Assign_Subscript (thn (hv.run pins s σ H _ I h) fun r s1 ⟨v, H1, I1, rv, q1⟩ => thn (ho.run pins s1 σ H1 _ I1 q1) fun u s2 ⟨x, H2, I2, rx, q2⟩ => thn (hi.run pins s2 σ H2 _ I2 q2) fun iv s3 ⟨y, H3, I3, ry, a, b, xs, k, n, ex, ey, ev, m, hk, dp, l, q3⟩ => ?_) hs
  subst ex ey ev
  obtain rfl : u = Value.ref a := rx
  obtain rfl : iv = Value.ref b := ry
  obtain ⟨hd, ys, rr, mm⟩ := nd_of I3 m
  have q := rr.val k
  rw [l] at q
  have q2 := Option.map_eq_none_iff.mp (RelO.none_of q)
  have hz : ys.length ≤ sizeLine := by
    rw [← Paired.length rr]
    exact Nat.le_of_lt m.few
  refine wpAny_setItem_heap (knd := nestedKind X.prog X.w) (hsz := hz) (by show X.A.units + 1 + 8 < cLine; omega) (nd_key I3 hk dp) mm fun h' mm' hs' => ?_
  rw [storedH_new q2] at mm'
  exact ⟨σ, _, nd_write I3 m hs' hd (rr.snoc rv) mm', q3⟩
/-- d.get(k) -/
theorem pe_nget1 {apos cpos : Pos} (hu : X.A.units + 64 < cLine) (ho : PE X o td) (he : PE X e ty) (m : M1 X o "get" apos e cpos) : PE X (.Call (.Attribute o "get" apos) [e] [] cpos) (fun σ H Q => td σ H fun x H1 => ∃ a xs, x = .ref a ∧ NdAt X.prog X.w H1 a xs ∧
    ty σ H1 fun y H2 => ∃ b k, y = .ref b ∧ NdAt X.prog X.w H2 a xs ∧ Dt H2 k (.ref b) ∧ k.depth ≤ 8 ∧ Q (((nval xs k).map V.int).getD .non) H2) := by
  refine ⟨fun pins s σ H Q I h => ?_⟩
  refine wpAny_Call_method m.base m.few m.line PySem.F.plainAttrs_dict PySem.F.slot_dict_get PySem.F.type_dict_get (thn (ho.run pins s σ H _ I h) fun u s1 ⟨x, H1, I1, rx, a, xs, ex, d, q1⟩ => ?_)
  subst ex
  obtain rfl : u = Value.ref a := rx
  obtain ⟨_, ys0, _, mm0⟩ := nd_of I1 d
  refine ⟨mm0.typeIs, fun b q => ?_, ?_⟩
  · cases q
    obtain ⟨ob, _, _, h1, h2, _⟩ := mm0
    exact ⟨ob, h1, h2.2.1⟩
  rw [m.trees]
  refine Calls.callWith_builtin rfl (Calls.evalArgs_plain (Calls.spliced_cons (thn (he.run pins s1 σ H1 _ I1 q1) fun iv s2 ⟨y, H2, I2, ry, b, k, ey, m2, hk, dp, q2⟩ => Calls.spliced_nil ?_)))
  subst ey
  obtain rfl : iv = Value.ref b := ry
  obtain ⟨hd, ys, rr, mm⟩ := nd_of I2 m2
  show wpAny _ _ (call (.builtin "dict.get") [.ref a, .ref b]) _ _ _
  refine call_meetsIn PySem.F.slot_dict_get mm.typeIs PySem.F.entry_dict_get (PySem.F.args_dict_get_2 _ _) (meetsH_dict_get (nestedKind X.prog X.w) a b hd) ⟨(by show X.A.units + 1 + 8 < cLine; omega), k, ys, nd_key I2 hk dp, mm, ?_⟩
  exact ⟨_, H2, I2.tok _, (rr.val k).getD (d := .non) rfl, q2⟩
/-- d.pop(k), there -/
theorem pe_npop1 {apos cpos : Pos} (hu : X.A.units + 64 < cLine) (ho : PE X o td) (he : PE X e ty) (m : M1 X o "pop" apos e cpos) : PE X (.Call (.Attribute o "pop" apos) [e] [] cpos) (fun σ H Q => td σ H fun x H1 => ∃ a xs, x = .ref a ∧ NdAt X.prog X.w H1 a xs ∧
    ty σ H1 fun y H2 => ∃ b k v, y = .ref b ∧ NdAt X.prog X.w H2 a xs ∧ Dt H2 k (.ref b) ∧ k.depth ≤ 8 ∧ nval xs k = some v ∧ Q (.int v) (upd H2 a (NdO X.prog X.w a (ndrop xs k)))) := by
  refine ⟨fun pins s σ H Q I h => ?_⟩
  refine wpAny_Call_method m.base m.few m.line PySem.F.plainAttrs_dict PySem.F.slot_dict_pop PySem.F.type_dict_pop (thn (ho.run pins s σ H _ I h) fun u s1 ⟨x, H1, I1, rx, a, xs, ex, d, q1⟩ => ?_)
  subst ex
  obtain rfl : u = Value.ref a := rx
  obtain ⟨_, ys0, _, mm0⟩ := nd_of I1 d
  refine ⟨mm0.typeIs, fun b q => ?_, ?_⟩
  · cases q
    obtain ⟨ob, _, _, h1, h2, _⟩ := mm0
    exact ⟨ob, h1, h2.2.1⟩
  rw [m.trees]
  refine Calls.callWith_builtin rfl (Calls.evalArgs_plain (Calls.spliced_cons (thn (he.run pins s1 σ H1 _ I1 q1) fun iv s2 ⟨y, H2, I2, ry, b, k, v, ey, m2, hk, dp, l, q2⟩ => Calls.spliced_nil ?_)))
  subst ey
  obtain rfl : iv = Value.ref b := ry
  obtain ⟨hd, ys, rr, mm⟩ := nd_of I2 m2
  have q := rr.val k
  rw [l] at q
  obtain ⟨w', hw, rw'⟩ := RelO.some_of q
  obtain ⟨p, hp, hp2⟩ := Option.map_eq_some_iff.mp hw
  have hz : ys.length ≤ sizeLine := by
    rw [← Paired.length rr]
    exact Nat.le_of_lt m2.few
  show wpAny _ _ (call (.builtin "dict.pop") [.ref a, .ref b]) _ _ _
  refine call_pop_heap (knd := nestedKind X.prog X.w) (more := []) (hsz := hz) (.inl rfl) (PySem.F.args_dict_pop_2 _ _) (by show X.A.units + 1 + 8 < cLine; omega) (nd_key I2 hk dp) hd mm hp fun h' mm' hs' => ?_
  rw [hp2]
  exact ⟨.int v, _, nd_write I2 m2 hs' hd (rr.drop k) mm', rw', q2⟩
end
/-- len(d) -/
theorem call_lenN {X : Cx} : CallR X (.builtin "len") (fun xs H Q => ∃ a es, xs = [V.ref a] ∧ NdAt X.prog X.w H a es ∧ Q (.int es.length) H) := by
  intro pins s σ H xs us Q I r h
  obtain ⟨a, es, rfl, m, q⟩ := h
  obtain ⟨u, rfl, ru⟩ := vals1 r
  cases ru
  obtain ⟨hd, ys, rr, mm⟩ := nd_of I m
  have hz : ys.length < sizeLine := by
    rw [← Paired.length rr]
    exact m.few
  have mk : s.heap.DictKeyed (nestedKind X.prog X.w) a (pairsH ys) := ⟨ys, mm, rfl⟩
  refine PyProof.Rows.call_len_slot (n := (pairsH ys).length) mk.typeIs F.slot_dict_len (fun Q' hq => len_keyed hd mk hq) (by omega) (by rw [pairsH_length]; rw [sizeLine_eq] at hz; omega) ?_
  have e : ((pairsH ys).length : Int) = (es.length : Int) := by rw [pairsH_length, ← Paired.length rr]
  exact ⟨.int es.length, H, I.tok _, ⟨_, by rw [e]⟩, q⟩
end Mw

/-! Further rules: a list lengthened by a tuple, a dict's keys in order, == and != of data, list(d.values()), text * int, WoodError.__init__, a method called at the caller's slots, clauses with and without a name. -/
namespace Mw
open PySem PySem.Spec PyProof.Rows L2
section
variable {X : Cx}
/-- xs.extend(t), t a tuple -/
def rExtT : V → List V → Hp → VK → Prop := fun x vs H Q => ∃ l b xs zs, x = .ref l ∧ vs = [.ref b] ∧ H l = some (.lst xs) ∧ H b = some (.tup zs) ∧ xs.length + zs.length ≤ sizeLine ∧ Q .non (upd H l (.lst (xs ++ zs)))
end
theorem ext_tup (l : Addr) (items : Array Value) (n : Nat) (b : Addr) (dd : Option Addr) (sl : Array (Option Value)) (items2 : Array Value) (n2 : Nat) (hs0 : ¬(!items.isEmpty && Builtin.List.listTooLong (items.size + items2.size)) = true) (hs1 : items.size ≤ sizeLine) (hs2 : items.size + items2.size ≤ sizeLine + 1) :
    Meets (Builtin.«list.extend» ⟨[.ref l, .ref b], []⟩) (fun _ R s => s.heap.get? l = some { cls := .type "list", dict := none, data := .seq items n, slots := #[] } ∧ s.heap.get? b = some { cls := .type "tuple", dict := dd, data := .seq items2 n2, slots := sl } ∧ R (.ok (.ret Value.none)) { s with heap := s.heap.update l (Obj.mapSeq fun x => x ++ items2), toks := s.toks }) :=
  .of_wp fun prog w A R s h => by
    obtain ⟨hp, g, d, tk, os⟩ := s; obtain ⟨hl, hb, h⟩ := h; have f1 := AutoSeq1.idx_int; have f2 := AutoSeq1.sub_tuple_tuple; have f3 := AutoSeq1.sub_list_list; have f4 := AutoSeq1.sub_tuple_list; have f5 := AutoSeq1.sub_list_tuple;
    have hz' : (items ++ items2).size ≤ sizeLine + 1 := by rw [Array.size_append]; exact hs2
    wp_walk using (wpAny_updateSeq hl rfl (hz := hs1) (_hz' := hz')), AutoSeq1.wpAny_loadPart' hl, AutoSeq1.wpAny_loadPart' hb; exact ⟨_, rfl, h⟩
section
variable {X : Cx}
theorem mt_extT : MtR X "list.extend" rExtT := by
  intro pins s σ H x vs v us Q I rx rv h
  obtain ⟨l, b, xs, zs, rfl, rfl, hH, hB, hz, q⟩ := h
  cases rx
  obtain ⟨u, rfl, ru⟩ := rv.one
  cases ru
  obtain ⟨z, its, n, r, hl, e⟩ := I.lstM hH
  obtain ⟨z2, its2, r2, o2, e2, c2, n2, d2⟩ := (show ObjOk X.prog X.w H s.heap b (.tup zs) from I.hok b _ hB)
  obtain ⟨oc, od, dt, sl⟩ := o2
  simp only at c2 d2
  subst c2 d2
  have hl2 : zs.length = its2.length := r2.length
  have hsz : its.toArray.size + its2.toArray.size ≤ sizeLine := by rw [List.size_toArray, List.size_toArray]; omega
  have hlong : ¬ (!its.toArray.isEmpty && Builtin.List.listTooLong (its.toArray.size + its2.toArray.size)) = true := by
    rw [notLongL hsz, Bool.and_false]
    exact Bool.false_ne_true
  refine call_meets F.slot_list_extend ⟨_, e, rfl⟩ F.entry_list_extend (F.args_list_extend_2 _ _)
    (ext_tup l its.toArray n b od sl its2.toArray n2 hlong (by rw [List.size_toArray]; omega) (by omega)) ⟨e, e2, ?_⟩
  refine ⟨.non, _, I.lset (its' := its ++ its2) hH e (by simp) (r.append r2) ?_, rfl, q⟩
  rw [List.length_append]
  omega
/-- sorted(d), int keys, any number of them -/
def rSortDI : List V → Hp → VK → Prop := fun xs H Q => ∃ (a : Addr) (kvs : List (Key × V)) (ks : List Int), xs = [.ref a] ∧ Rd H a (.dK kvs) ∧ kvs.map (·.1) = ks.map Sum.inl ∧
    ∀ (ys : List Int) (p : Addr), ys.Perm ks → ys.Pairwise (· ≤ ·) → H p = none → Q (.ref p) (upd H p (.lst (ys.map V.int)))
theorem call_sortDI (hcalm : X.calm = true) : CallR X (.builtin "sorted") rSortDI := by
  intro pins s σ H xs us Q I r q
  obtain ⟨a, kvs, ks, ex, hd, hks, q⟩ := q
  subst ex
  obtain ⟨u, eu, rx⟩ := vals1 r
  subst eu
  cases rx
  obtain ⟨z, lo, vs, rel, dd⟩ := dk_rd I.hok hd
  obtain ⟨ep, hat⟩ := dd.dictAt
  have hkeys : vs.map (·.1) = ks.map Sum.inl := rel.keys.symm.trans hks
  have hl : vs.length = ks.length := by
    have e := congrArg List.length hkeys
    rw [List.length_map, List.length_map] at e
    exact e
  have h16 : vs.length ≤ sizeLine := by rw [← rel.length]; exact z
  refine Calls.call_function_entry PyProof.Rows.kind_sorted PyProof.Rows.plain_sorted PyProof.Rows.entry_sorted (PyProof.Rows.args_sorted1 _) ?_
  unfold Builtin.«sorted»
  refine wpAny_bind (m := checkCount "sorted" 1 1 _) (wpAny_pure ?_)
  refine wpAny_bind (PySem.W.kdu_collect (A := X.A.in1) (PySem.W.kdl_dict (knd := mixKind X.prog X.w) (kvs := vs) (ep := ep) lo) (I.ok.hd hcalm) hat h16 fun h' tk acc hk hacc => ?_)
  have hal : acc.toList.length = ks.length := by rw [Array.length_toList, hacc.1, hl]
  have hS : IntsAre acc.toList ks := ints_each hal fun j v e => by
    obtain ⟨k, x, e1, e2⟩ := hacc.2 j v (by rw [← Array.getElem?_toList]; exact e)
    have e3 : (vs.map (·.1))[j]? = some k := by rw [List.getElem?_map, e1]; rfl
    rw [hkeys, List.getElem?_map] at e3
    cases e4 : ks[j]? with
    | none => rw [e4] at e3; cases e3
    | some y =>
      rw [e4] at e3
      have e5 : Sum.inl y = k := Option.some.inj e3
      subst e5
      rcases keyIs_shape (show keyIs (Sum.inl y) v = true from e2) with ⟨i, t, ek, ev⟩ | ⟨z, t, ek, ev⟩
      · cases ek
        exact ⟨y, t, rfl, ev⟩
      · cases ek
  have I1 : Inv X pins σ H { s with heap := h', toks := tk } := I.kept hk
  have hz2 : acc.toList.length ≤ sizeLine := by rw [hal, ← hl]; exact h16
  refine wpAny_bind (wpAny_newList ?_ hz2)
  have hoL : (h'.push (seqObj "list" acc.toList.toArray 0)).get? h'.objs.size = some (seqObj "list" acc.toList.toArray 0) := Heap.get?_push_size _ rfl
  show wpAny _ _ _ _ _ { s with heap := h'.push (seqObj "list" acc.toList.toArray 0), toks := tk }
  refine wpAny_bind (wpAny_holding (wpAny_call_entry PyProof.Rows.slot_list_sort ⟨_, hoL, rfl⟩ PyProof.Rows.entry_list_sort
    (SrtO.list_sort_ord SrtO.swo_int (s := { s with heap := h'.push (seqObj "list" acc.toList.toArray 0), toks := tk }) hoL hz2 (fun h2 => SrtO.ints_sortable hS h2) fun out h1 h2 => ⟨_, rfl, ?_⟩) (PyProof.Rows.args_list_sort _)))
  obtain ⟨k1, k2, k3⟩ := SrtO.ints_out hS h1 h2
  obtain ⟨e', he'⟩ := PyProof.Rows.sortedHeap_at (vs := acc.toList) (out := out.toArray) hoL
  have hlen : ((out.map SrtO.iv).map V.int).length ≤ sizeLine := by
    rw [List.length_map, k2.length_eq, ← hl]
    exact h16
  refine wpAny_pure ⟨_, rfl, .ref h'.objs.size, upd H h'.objs.size (.lst ((out.map SrtO.iv).map V.int)), I1.laid (t' := tk) (fun b u e => ?_) (Nat.le_refl _)
    (show ObjOk X.prog X.w _ _ _ (.lst ((out.map SrtO.iv).map V.int)) from ⟨hlen, out, e', vals_of_ints k1, he'⟩), rfl, q _ _ k2 k3 (I1.hok.fresh (Nat.le_refl _))⟩
  have hb : b < h'.objs.size := Heap.lt_size e
  rw [PyProof.Rows.sortedHeap_old (Nat.ne_of_lt hb) (by rw [size_push']; exact Nat.lt_succ_of_lt hb)]
  exact Heap.get?_push_of_some _ e

/-! ### == and != of tuples of data; of lists of the same data -/
theorem tup_at {pins : List (Addr × Obj)} {σ : L2.St} {H : Hp} {s : Shared} {ks : List NestedKey} {v : V} {u : Value} (I : Inv X pins σ H s) (h : Dt H (.tup ks) v) (r : RelV v u) : ∃ a its, u = .ref a ∧ IsTup s.heap a (its : List Value).toArray ∧ NestedAll s.heap ks its := by
  obtain ⟨a, vs, rfl, ha, hs⟩ := h
  cases (show u = Value.ref a from r)
  obtain ⟨_, its, rv, p⟩ := (show ObjOk X.prog X.w H s.heap a (.tup vs) from I.hok a _ ha)
  exact ⟨a, its, rfl, p, Dt.isAll I.hok ks vs its hs rv⟩
theorem op_eqN (hu : X.A.units + 64 < cLine) : OpR X (compareOp .Eq) (fun x y H Q => ∃ ks ls, Dt H (.tup ks) x ∧ Dt H (.tup ls) y ∧ NestedKey.depthAll ks ≤ 16 ∧ Q (.bl (decide (ks = ls))) H) := by
  intro pins s σ H x y v u Q I rx ry h
  obtain ⟨ks, ls, hx, hy, dp, q⟩ := h
  obtain ⟨a, its, rfl, ha, na⟩ := tup_at I hx rx
  obtain ⟨b, its2, rfl, hb, nb⟩ := tup_at I hy ry
  have n1 := NestedAll.length _ _ na
  have n2 := NestedAll.length _ _ nb
  refine SeqAt.RcAt.tuples (show s.heap.IsTuple a its.toArray from ha) (show s.heap.IsTuple b its2.toArray from hb) (e := keyEqAt ks ls) (by omega) (fun j j1 j2 => ?_) _ _ _ _ ?_
  · have := eqAt_keys ks ls X.A.in1 s its its2 na nb (by show X.A.units + 1 + _ < cLine; omega) j (by simpa using j1) (by simpa using j2)
    simpa using this
  · have e : ((List.range (min its.toArray.size its2.toArray.size)).all (keyEqAt ks ls) && its.toArray.size == its2.toArray.size) = decide (ks = ls) := by
      rw [List.size_toArray, List.size_toArray, n1, n2, beqAll_eq]
      cases hb : NestedKey.beqAll ks ls with
      | true => exact (decide_eq_true (NestedKey.eq_of_beqAll _ _ hb)).symm
      | false => exact (decide_eq_false fun e => by rw [e, NestedKey.beqAll_self] at hb; cases hb).symm
    rw [e]
    exact ⟨.bl _, H, I, rfl, q⟩
theorem op_neN (hu : X.A.units + 64 < cLine) : OpR X (compareOp .NotEq) (fun x y H Q => ∃ ks ls, Dt H (.tup ks) x ∧ Dt H (.tup ls) y ∧ NestedKey.depthAll ks ≤ 16 ∧ Q (.bl (!decide (ks = ls))) H) := by
  intro pins s σ H x y v u Q I rx ry h
  obtain ⟨ks, ls, hx, hy, dp, q⟩ := h
  obtain ⟨a, its, rfl, ha, na⟩ := tup_at I hx rx
  obtain ⟨b, its2, rfl, hb, nb⟩ := tup_at I hy ry
  have n1 := NestedAll.length _ _ na
  have n2 := NestedAll.length _ _ nb
  refine SeqAt.RcNeAt.tuples (show s.heap.IsTuple a its.toArray from ha) (show s.heap.IsTuple b its2.toArray from hb) (e := keyEqAt ks ls) (by omega) (fun j j1 j2 => ?_) _ _ _ _ ?_
  · have := eqAt_keys ks ls X.A.in1 s its its2 na nb (by show X.A.units + 1 + _ < cLine; omega) j (by simpa using j1) (by simpa using j2)
    simpa using this
  · have e : ((List.range (min its.toArray.size its2.toArray.size)).all (keyEqAt ks ls) && its.toArray.size == its2.toArray.size) = decide (ks = ls) := by
      rw [List.size_toArray, List.size_toArray, n1, n2, beqAll_eq]
      cases hb : NestedKey.beqAll ks ls with
      | true => exact (decide_eq_true (NestedKey.eq_of_beqAll _ _ hb)).symm
      | false => exact (decide_eq_false fun e => by rw [e, NestedKey.beqAll_self] at hb; cases hb).symm
    rw [e]
    exact ⟨.bl _, H, I, rfl, q⟩
theorem NestedAll_same {h : Heap} {ks : List NestedKey} {vs : List Value} (h1 : NestedAll h ks vs) : ∀ j, j < vs.length → ∃ k, ks[j]? = some k := fun j hj => by
  have := NestedAll.length _ _ h1
  exact ⟨ks[j]'(by omega), List.getElem?_eq_getElem (by omega)⟩
theorem keyEq_refl (ks : List NestedKey) : (List.range ks.length).all (keyEqAt ks ks) = true := by
  have e := beqAll_eq ks ks
  rw [NestedKey.beqAll_self, Nat.min_self] at e
  exact (Bool.and_eq_true_iff.mp e).1
/-- the lists at both hold the same data: != is False -/
theorem op_neSame (hu : X.A.units + 64 < cLine) : OpR X (compareOp .NotEq) (fun x y H Q => ∃ p q xs ys ks, x = .ref p ∧ y = .ref q ∧ H p = some (.lst xs) ∧ H q = some (.lst ys) ∧ DtAll H ks xs ∧ DtAll H ks ys ∧ NestedKey.depthAll ks ≤ 16 ∧ Q (.bl false) H) := by
  intro pins s σ H x y v u Q I rx ry h
  obtain ⟨p, q, xs, ys, ks, rfl, rfl, hp, hq, dx, dy, dp, k⟩ := h
  cases rx
  cases ry
  obtain ⟨_, its, n, rv, e1⟩ := (show ObjOk X.prog X.w H s.heap p (.lst xs) from I.hok p _ hp)
  obtain ⟨_, its2, n2, rv2, e2⟩ := (show ObjOk X.prog X.w H s.heap q (.lst ys) from I.hok q _ hq)
  have na := Dt.isAll I.hok ks xs its dx rv
  have nb := Dt.isAll I.hok ks ys its2 dy rv2
  have n1 := NestedAll.length _ _ na
  have n2' := NestedAll.length _ _ nb
  refine SeqAt.RcNeAt.lists (l := p) (b := q) (items := its.toArray) (items2 := its2.toArray) ⟨_, e1, rfl, _, rfl⟩ ⟨_, e2, rfl, _, rfl⟩ (e := keyEqAt ks ks) (by simp; omega) (by omega) (fun j j1 j2 => ?_) _ _ _ _ ?_
  · have := eqAt_keys ks ks X.A.in1 s its its2 na nb (by show X.A.units + 1 + _ < cLine; omega) j (by simpa using j1) (by simpa using j2)
    simpa using this
  · rw [List.size_toArray, n1, keyEq_refl]
    exact ⟨.bl false, H, I, rfl, k⟩

/-! ### "a" * 40 -/
def repA : Str := ⟨(List.replicate 40 (#[97] : Array Nat)).foldl (· ++ ·) #[]⟩
theorem op_repA : OpR X (binaryOp .Mult) (fun x y H Q => x = .str "a" ∧ y = .int 40 ∧ Q (.str repA) H) := by
  intro pins s σ H x y v u Q I rx ry h
  obtain ⟨rfl, rfl, q⟩ := h
  obtain ⟨t, rfl⟩ := rx
  obtain ⟨t', rfl⟩ := ry
  refine PySem.P.mul_str (by decide) (fun _ _ => by decide +kernel) (fun _ _ => by decide +kernel) ?_
  rw [if_neg (by decide), if_neg (by decide +kernel)]
  exact ⟨by decide +kernel, ⟨.str _, H, I.tok _, ⟨_, rfl⟩, q⟩⟩
end
end Mw

/-! Walks by turns, comprehensions and loops over them; list(d.values()); WoodError.__init__; a method at the caller's slots; clauses with a name and without. -/
namespace Mw
open PySem PySem.Spec PyProof.Rows L2

/-! ### what is walked, in heaps that keep all but S -/
structure Wk (J : It) (n : Nat) (S : List Addr) (H1 : Hp) (Y : Nat → V → Hp → Prop) : Prop where
  go : ∀ i H, i < n → Kp S H1 H → J.go i H ∧ ∀ x H', J.yld i H x H' → Same H H' ∧ Y i x H'
  stop : ∀ H, Kp S H1 H → J.stop n H
section
variable {K : PySem.W.Frag} {S : List Addr} {H1 : Hp} {a b d : Addr} {xs ys : List V}
theorem Wk.list (h : SqL K H1 a xs) (ha : a ∉ S) : Wk (Itl K a) xs.length S H1 (fun i x _ => xs[i]? = some x) where
  go := fun i H hi k => ⟨⟨xs, xs[i], k.sq h ha, List.getElem?_eq_getElem hi⟩, fun x H' y => by
    obtain ⟨e, y⟩ := y
    subst e
    exact ⟨Same.refl _, y xs (k.sq h ha)⟩⟩
  stop := fun H k => ⟨xs, k.sq h ha, Nat.le_refl _⟩
theorem Kp.sqt {H : Hp} (k : Kp S H1 H) (h : SqT K H1 a xs) : SqT K H a xs := by
  rcases h with (h | ⟨o, h⟩) | h
  · exact .inl (.inl (k.tup h))
  · exact .inl (.inr ⟨o, k _ _ h (.inr True.intro)⟩)
  · exact .inr h
theorem Wk.tup (h : SqT K H1 a xs) : Wk (Itt K a) xs.length S H1 (fun i x _ => xs[i]? = some x) where
  go := fun i H hi k => ⟨⟨xs, xs[i], k.sqt h, List.getElem?_eq_getElem hi⟩, fun x H' y => by
    obtain ⟨e, y⟩ := y
    subst e
    exact ⟨Same.refl _, y xs (k.sqt h)⟩⟩
  stop := fun H k => ⟨xs, k.sqt h, Nat.le_refl _⟩
theorem Wk.range {lo : Int} {n : Nat} : Wk (Itr lo n) n S H1 (fun i x _ => x = .int (lo + i)) where
  go := fun i H hi k => ⟨hi, fun x H' y => by
    obtain ⟨e, y⟩ := y
    subst e
    exact ⟨Same.refl _, y⟩⟩
  stop := fun H k => Nat.le_refl _
theorem Wk.str {z : Str} : Wk (Its z) z.cps.size S H1 (fun i x _ => ∃ c, z.cps[i]? = some c ∧ x = .str ⟨#[c]⟩) where
  go := fun i H hi k => ⟨hi, fun x H' y => by
    obtain ⟨e, y⟩ := y
    subst e
    exact ⟨Same.refl _, y⟩⟩
  stop := fun H k => Nat.le_refl _
theorem Wk.zip (hl : xs.length = ys.length) (ha : SqL K H1 a xs) (hb : SqL K H1 b ys) (na : a ∉ S) (nb : b ∉ S) :
    Wk (Itz K a b) xs.length S H1 (fun i v H => ∃ T x y, v = .ref T ∧ H T = some (.tup [x, y]) ∧ xs[i]? = some x ∧ ys[i]? = some y) where
  go := fun i H hi k => ⟨⟨xs, ys, xs[i], ys[i]'(by omega), k.sq ha na, k.sq hb nb, List.getElem?_eq_getElem hi, List.getElem?_eq_getElem (by omega)⟩, fun v H' q => by
    obtain ⟨T, x, y, e, hT, eH, f1, f2⟩ := q
    subst eH
    exact ⟨Same.new hT, T, x, y, e, upd_same, f1 xs (k.sq ha na), f2 ys (k.sq hb nb)⟩⟩
  stop := fun H k => ⟨xs, ys, k.sq ha na, k.sq hb nb, .inl (Nat.le_refl _)⟩
/-- the pairs of a locked dict -/
theorem Wk.items {o : Obj} {kvs : List (Key × V)} (h : H1 d = some (.frz o (.dK kvs))) :
    Wk (Iti d o kvs) kvs.length S H1 (fun i v H => ∃ T k x, v = .ref T ∧ H T = some (.tup [kV k, x]) ∧ kvs[i]? = some (k, x)) where
  go := fun i H hi k => ⟨⟨k _ _ h (.inr True.intro), hi⟩, fun v H' q => by
    obtain ⟨T, ky, x, e1, e2, hT, eH⟩ := q
    subst eH
    exact ⟨Same.new hT, T, ky, x, e2, upd_same, e1⟩⟩
  stop := fun H k => ⟨k _ _ h (.inr True.intro), Nat.le_refl _⟩
/-- the keys of a locked dict -/
theorem Wk.keys {o : Obj} {kvs : List (Key × V)} (h : H1 d = some (.frz o (.dK kvs))) :
    Wk (Itk d o kvs) kvs.length S H1 (fun i v _ => ∃ k x, v = kV k ∧ kvs[i]? = some (k, x)) where
  go := fun i H hi k => ⟨⟨k _ _ h (.inr True.intro), hi⟩, fun v H' q => by
    obtain ⟨eH, ky, x, e1, e2⟩ := q
    subst eH
    exact ⟨Same.refl _, ky, x, e2, e1⟩⟩
  stop := fun H k => ⟨k _ _ h (.inr True.intro), Nat.le_refl _⟩
end
/-- a loop over it -/
theorem for_wk {J : It} {n : Nat} {S : List Addr} {H1 : Hp} {Y : Nat → V → Hp → Prop} {g : TG} {tb : TS} {D : Ends} {σ : L2.St} (w : Wk J n S H1 Y) (Pv : Nat → L2.St → Hp → Prop) (h0 : Pv 0 σ H1) (hk : ∀ i σ H, Pv i σ H → Kp S H1 H)
    (hs : ∀ i x σ H H', i < n → Pv i σ H → Same H H' → Y i x H' → g x σ H' fun σ2 H2 => tb { D with nx := Pv (i + 1), ct := Pv (i + 1), bk := D.nx } σ2 H2) (hd : ∀ σ H, Pv n σ H → D.nx σ H) :
    ∃ W : Nat → Nat → L2.St → Hp → Prop, (∃ m, W 0 m σ H1) ∧ ∀ i m σ H, W i m σ H →
      (J.stop i H ∧ D.nx σ H) ∨ (J.go i H ∧ ∃ N : L2.St → Hp → Prop, (∀ σ' H', N σ' H' → ∃ m', m' < m ∧ W (i + 1) m' σ' H') ∧ ∀ x H', J.yld i H x H' → g x σ H' fun σ2 H2 => tb { D with nx := N, ct := N, bk := D.nx } σ2 H2) := by
  refine ⟨fun i m σ H => m = n - i ∧ i ≤ n ∧ Pv i σ H, ⟨n, rfl, Nat.zero_le _, h0⟩, ?_⟩
  rintro i m σ H ⟨rfl, hi, p⟩
  by_cases hlt : i < n
  · obtain ⟨g1, g2⟩ := w.go i H hlt (hk i σ H p)
    refine .inr ⟨g1, Pv (i + 1), fun σ' H' p' => ⟨n - (i + 1), by omega, rfl, hlt, p'⟩, fun x H' y => ?_⟩
    obtain ⟨s, y⟩ := g2 x H' y
    exact hs i x σ H H' hlt p s y
  · have e : i = n := by omega
    subst e
    exact .inl ⟨w.stop H (hk _ σ H p), hd σ H p⟩
/-- between two turns of a comprehension: what is made so far stands at D -/
def LcP (D : Addr) (G : Nat → List V → Hp → Prop) (i : Nat) (H : Hp) : Prop := ∃ acc, acc.length ≤ i ∧ H D = some (.lst acc) ∧ G i acc H
theorem LcP.put {D : Addr} {G : Nat → List V → Hp → Prop} {i : Nat} {H : Hp} {acc : List V} {y : V} (hD : H D = some (.lst acc)) (hl : acc.length ≤ i) (hi : i < sizeLine) (g : G (i + 1) (acc ++ [y]) (upd H D (.lst (acc ++ [y])))) :
    ∃ acc', H D = some (.lst acc') ∧ acc'.length < sizeLine ∧ LcP D G (i + 1) (upd H D (.lst (acc' ++ [y]))) :=
  ⟨acc, hD, Nat.lt_of_le_of_lt hl hi, acc ++ [y], by rw [List.length_append, List.length_singleton]; omega, upd_same, g⟩
theorem LcP.skip {D : Addr} {G : Nat → List V → Hp → Prop} {i : Nat} {H : Hp} {acc : List V} (hD : H D = some (.lst acc)) (hl : acc.length ≤ i) (g : G (i + 1) acc H) : LcP D G (i + 1) H := ⟨acc, by omega, hD, g⟩
/-- a comprehension over it: G by the turn, what is made so far, the heap -/
theorem lc_wk {J : It} {n : Nat} {S : List Addr} {H1 : Hp} {Y : Nat → V → Hp → Prop} {g : TG} {tt : TT} {te : TE} {vs : List Nat} {σ : L2.St} {D : Addr} {Qd : Hp → Prop} (w : Wk J n S H1 Y)
    (G : Nat → List V → Hp → Prop) (h0 : G 0 [] (upd H1 D (.lst []))) (hk : ∀ i acc H, G i acc H → Kp S H1 H)
    (hs : ∀ i x acc H H', i < n → acc.length ≤ i → H D = some (.lst acc) → G i acc H → Same H H' → Y i x H' → g x (wipe σ vs) H' fun σ2 H2 => wipe σ2 vs = wipe σ vs ∧ tt σ2 H2 fun b H3 =>
      if b = true then te σ2 H3 fun y H4 => ∃ acc, H4 D = some (.lst acc) ∧ acc.length < sizeLine ∧ LcP D G (i + 1) (upd H4 D (.lst (acc ++ [y]))) else LcP D G (i + 1) H3)
    (hd : ∀ acc H, G n acc H → H D = some (.lst acc) → Qd H) :
    ∃ W : Nat → Nat → Hp → Prop, (∃ m, W 0 m (upd H1 D (.lst []))) ∧ ∀ i m H, W i m H →
      (J.stop i H ∧ Qd H) ∨ (J.go i H ∧ ∃ Nx : Hp → Prop, (∀ H', Nx H' → ∃ m', m' < m ∧ W (i + 1) m' H') ∧ ∀ x H', J.yld i H x H' → g x (wipe σ vs) H' fun σ2 H2 => wipe σ2 vs = wipe σ vs ∧ tt σ2 H2 fun b H3 =>
        if b = true then te σ2 H3 fun y H4 => ∃ acc, H4 D = some (.lst acc) ∧ acc.length < sizeLine ∧ Nx (upd H4 D (.lst (acc ++ [y]))) else Nx H3) := by
  refine ⟨fun i m H => m = n - i ∧ i ≤ n ∧ LcP D G i H, ⟨n, rfl, Nat.zero_le _, [], Nat.le_refl _, upd_same, h0⟩, ?_⟩
  rintro i m H ⟨rfl, hi, acc, hl, hD, p⟩
  by_cases hlt : i < n
  · obtain ⟨g1, g2⟩ := w.go i H hlt (hk i acc H p)
    refine .inr ⟨g1, LcP D G (i + 1), fun H' z => ⟨n - (i + 1), by omega, rfl, hlt, z⟩, fun x H' y => ?_⟩
    obtain ⟨s, y⟩ := g2 x H' y
    exact hs i x acc H H' hlt hl hD p s y
  · have e : i = n := by omega
    subst e
    exact .inl ⟨w.stop H (hk _ acc H p), hd acc H p hD⟩
/-- .. whose elements change nothing that stood -/
abbrev LcS (H1 : Hp) (D : Addr) (R : Nat → List V → Prop) : Nat → Hp → Prop := LcP D (fun i acc H => Same H1 H ∧ R i acc)
theorem LcS.put {H1 : Hp} {D : Addr} {R : Nat → List V → Prop} {i : Nat} {H : Hp} {acc : List V} {y : V} (nD : H1 D = none) (s : Same H1 H) (hD : H D = some (.lst acc)) (hl : acc.length ≤ i) (hi : i < sizeLine) (r : R (i + 1) (acc ++ [y])) :
    ∃ acc', H D = some (.lst acc') ∧ acc'.length < sizeLine ∧ LcS H1 D R (i + 1) (upd H D (.lst (acc' ++ [y]))) :=
  LcP.put hD hl hi ⟨fun b o e => by
    rw [upd_ne (ne_of_none e nD)]
    exact s b o e, r⟩
theorem LcS.skip {H1 : Hp} {D : Addr} {R : Nat → List V → Prop} {i : Nat} {H : Hp} {acc : List V} (s : Same H1 H) (hD : H D = some (.lst acc)) (hl : acc.length ≤ i) (r : R (i + 1) acc) : LcS H1 D R (i + 1) H := LcP.skip hD hl ⟨s, r⟩
theorem lc_same {J : It} {n : Nat} {H1 : Hp} {Y : Nat → V → Hp → Prop} {g : TG} {tt : TT} {te : TE} {vs : List Nat} {σ : L2.St} {D : Addr} {Qd : Hp → Prop} (w : Wk J n [] H1 Y) (nD : H1 D = none)
    (R : Nat → List V → Prop) (h0 : R 0 [])
    (hs : ∀ i x acc H, i < n → acc.length ≤ i → H D = some (.lst acc) → Same H1 H → R i acc → Y i x H → g x (wipe σ vs) H fun σ2 H2 => wipe σ2 vs = wipe σ vs ∧ tt σ2 H2 fun b H3 =>
      if b = true then te σ2 H3 fun y H4 => ∃ acc, H4 D = some (.lst acc) ∧ acc.length < sizeLine ∧ LcS H1 D R (i + 1) (upd H4 D (.lst (acc ++ [y]))) else LcS H1 D R (i + 1) H3)
    (hd : ∀ acc H, Same H1 H → R n acc → H D = some (.lst acc) → Qd H) :
    ∃ W : Nat → Nat → Hp → Prop, (∃ m, W 0 m (upd H1 D (.lst []))) ∧ ∀ i m H, W i m H →
      (J.stop i H ∧ Qd H) ∨ (J.go i H ∧ ∃ Nx : Hp → Prop, (∀ H', Nx H' → ∃ m', m' < m ∧ W (i + 1) m' H') ∧ ∀ x H', J.yld i H x H' → g x (wipe σ vs) H' fun σ2 H2 => wipe σ2 vs = wipe σ vs ∧ tt σ2 H2 fun b H3 =>
        if b = true then te σ2 H3 fun y H4 => ∃ acc, H4 D = some (.lst acc) ∧ acc.length < sizeLine ∧ Nx (upd H4 D (.lst (acc ++ [y]))) else Nx H3) :=
  lc_wk w (fun i acc H => Same H1 H ∧ R i acc) ⟨Same.new nD, h0⟩ (fun _ _ _ h => .same h.1)
    (fun i x acc H H' hi hl hD h s y => hs i x acc H' hi hl (s _ _ hD) (h.1.trans s) h.2 y) fun acc H h hD => hd acc H h.1 h.2 hD

/-! ### list(d.values()) -/
section
variable {X : Cx} {e : Expr} {te : TE} {p apos cpos pos : Pos}
def tListVals (te : TE) : TE := fun σ H Q => te σ H fun x H1 => ∃ (d : Addr) (kvs : List (Key × V)), x = .ref d ∧ H1 d = some (.dK kvs) ∧ ∀ q, H1 q = none → Q (.ref q) (upd H1 q (.lst (kvs.map (·.2))))
theorem vals_snd : ∀ {kvs : List (Key × V)} {vs : List (Key × Value)}, KV kvs vs → Vals (kvs.map (·.2)) (vs.map (·.2))
  | _, _, .nil => .nil
  | _, _, .cons h t => .cons h.2 (vals_snd t)
theorem pe_listVals (hc : X.calm = true) (he : PE X e te) (hg : Gl X "list") (hm : X.mg "list" = none) (hbase : attributeBase e "values" X.env (eval e X.env) = eval e X.env := by rfl) (hline : (apos.endLine == cpos.line) = true := by rfl)
    (hs : starEach [.Call (.Attribute e "values" apos) [] [] cpos] X.env = (false, eval (.Call (.Attribute e "values" apos) [] [] cpos) X.env) :: starEach [] X.env := by rfl) :
    PE X (.Call (.Name "list" p) [.Call (.Attribute e "values" apos) [] [] cpos] [] pos) (tListVals te) := by
  refine ⟨fun pins s σ H Q I hq => ?_⟩
  refine wpAny_Call_Name_kw (ld_blt I hg hm (by decide +kernel : bootBuiltins "list" = some (.type "list")) ?_)
  refine PyProof.Rows.callWith_type1 ?_ hs rfl
  rw [hs]
  show wpAny _ _ (spliced ((false, eval (.Call (.Attribute e "values" apos) [] [] cpos) X.env) :: backTo pos (starEach [] X.env))) _ _ s
  refine Calls.spliced_cons ?_
  refine wpAny_Call_method (T := "dict") (id := "dict.values") hbase rfl hline F.plainAttrs_dict F.slot_dict_values F.type_dict_values (thn (he.run pins s σ H _ I hq) fun u s1 ⟨x, H1, I1, rx, d, kvs, ex, hd, q⟩ => ?_)
  subst ex
  obtain rfl : u = Value.ref d := rx
  obtain ⟨hz, hs0, vs, kv, hdo⟩ := I1.hok d _ hd
  obtain ⟨ep, hat⟩ := hdo.dictAt
  have lk : kvs.length = vs.length := Paired.length kv
  have I2 : Inv X pins σ H1 { s1 with heap := s1.heap.push { cls := .type "dict_values", data := .fields #[.ref d] } } := I1.kept (t' := s1.toks) fun b ob q => Heap.get?_push_of_some _ q
  refine ⟨hdo.typeIs, hdo.mapOf.noDict, ?_⟩
  show wpAny _ _ (callWith cpos (.builtin "dict.values") [.ref d] [] []) _ X.xe s1
  refine method_meetsIn F.slot_dict_values F.entry_dict_values rfl (PySem.evalArgs_none ⟨rfl, hdo.typeIs, F.args_dict_values_1 _, _, meets_dict_values (mixKind X.prog X.w) d hs0, ⟨vs, hdo⟩, ?_⟩)
  refine Calls.spliced_nil ?_
  refine PySem.W.kdl_call (PySem.W.kdl_values (knd := mixKind X.prog X.w) (kvs := vs) (ep := ep)) (I1.ok.hd hc) ⟨⟨_, Heap.get?_push_size _ rfl, rfl, rfl⟩, hat.push _⟩ (by omega) fun h' tk acc c' hk hD hacc => ?_
  have ev : acc.toList = vs.map (·.2) := PySem.W.kdl_vals_eq acc.toList (by rw [Array.length_toList]; exact hacc.1) fun j v e => hacc.2 j v (by rw [← Array.getElem?_toList]; exact e)
  refine ⟨.ref _, _, I2.laid (t' := tk) (o := .lst (kvs.map (·.2))) hk (Nat.le_refl _) ?_, rfl, q _ (I2.hok.fresh (Nat.le_refl _))⟩
  refine ⟨by rw [List.length_map]; exact hz, acc.toList, c', ?_, ?_⟩
  · rw [ev]
    exact vals_snd kv
  · rw [Array.toArray_toList]
    exact hD
end

/-! ### WoodError.__init__(self, ..), read off the class -/
section
variable {X : Cx} {o e : Expr} {es : List Expr} {ta : TA} {p1 p2 pos : Pos} {CW : Addr}
/-- what the written part says of the class -/
structure WinC (K : PySem.W.Frag) (C : Addr) : Prop where
  rd : PySem.W.readsIn K C (.type "type") = true
  ga : PySem.W.specialIn K (.ref C) "__getattribute__" = some (some (.builtin "type.__getattribute__"))
  fi : PySem.W.findCls K (.ref C) (.type "type") "__init__" = some (.val (.builtin "ValueError.__init__"))
theorem pe_winit {x : Str} {pl : Sem Bool} (hg : Gl X x) (hm : X.mg x = some (.ref CW)) (c : WinC X.K CW) (ha : PA X (e :: es) ta) (hdb : (x == ("__debug__" : Str)) = false := by decide)
    (hc : eval (.Call (.Attribute (.Name x p1) "__init__" p2) (e :: es) [] pos) X.env = (do
      let ov ← eval (.Name x p1) X.env
      standAt p2.atName
      let (f, first) ← holding [ov] (getMethod ov "__init__" pl)
      callWith pos f first (backTo pos (starEach (e :: es) X.env)) (backToKw pos (keywordEach [] X.env))) := by rfl)
    (he : starEach (e :: es) X.env = (false, eval e X.env) :: starEach es X.env := by rfl) (hpl : (backTo pos (starEach es X.env)).any (·.1) = false := by rfl) :
    PE X (.Call (.Attribute (.Name x p1) "__init__" p2) (e :: es) [] pos) (tVeI X.K ta) := by
  refine ⟨fun pins s σ H Q I h => ?_⟩
  refine PySem.W.methodCall_KW (ld_glob I hg hm ?_ hdb) hc
  refine PySem.W.method_cls I.kIn c.ga (PySem.W.cls_value I.kIn c.rd c.fi (by decide +kernel) ?_)
  show wpAny _ _ (callWith pos (Value.builtin "ValueError.__init__") [] (backTo pos (starEach (e :: es) X.env)) []) _ _ _
  refine PyProof.Rows.callWith_method1 (thn (ha.run pos pins _ σ H _ (I.tok _) h) fun us s1 ⟨vs, H1, I1, r1, a, C, ws, ev, hl, T, ea, q⟩ => ?_) he hpl
  subst ev
  cases r1 with
  | @cons _ u0 _ ur ra rw' =>
    obtain rfl : u0 = Value.ref a := ra
    have hlen : ur.length ≤ sizeLine := by
      rw [← Paired.length rw', sizeLine_eq]
      omega
    exact oinit_ok T I1 ea hlen fun s' J => ⟨.non, H1, J, rfl, q⟩
end

/-! ### o.m() at the caller's slots -/
section
variable {X : Cx} {CX : CXT} {k : Nat} {f C : Addr} {fd : FuncData} {ps : List Str} {sp : Sp} {E : L2.St → XK} {m : Str} {apos pos : Pos} {o : Expr} {ta : TE}
def tMethS (C : Addr) (m : Str) (sp : Sp) (E : L2.St → XK) (ta : TE) : TE := fun σ H Q => ta σ H fun x H1 => ∃ a dx fs, x = .ref a ∧ H1 a = some (.ins C dx fs) ∧ fs.lookup m = none ∧ sp [x] H1 Q (E σ)
theorem pe_methS0 {pl : Sem Bool} (he : PE X o ta) (c : Cls X.K C) (hm : Meth X.K C m f) (F : FnOk X.prog X.w X.K X.mg X.base CX k f fd ps sp) (hr : Room k X.A) (hb : Binds X.K fd ps []) (hx : ∀ σ, PassesAt CX X σ (E σ))
    (ht : eval (.Call (.Attribute o m apos) [] [] pos) X.env = (do
      let ov ← eval o X.env
      standAt apos.atName
      let (f, first) ← holding [ov] (getMethod ov m pl)
      callWith pos f first (backTo pos (starEach [] X.env)) (backToKw pos (keywordEach [] X.env))) := by rfl) :
    PE X (.Call (.Attribute o m apos) [] [] pos) (tMethS C m sp E ta) := by
  refine ⟨fun pins s σ H Q I h => ?_⟩
  refine PySem.W.methodCall_KW (pl := pl) (thn (he.run pins s σ H _ I h) fun u s1 ⟨x, H1, I1, rx, a, dx, fs, ex, ea, l, q⟩ => ?_) ht
  subst ex
  obtain rfl : u = Value.ref a := rx
  refine getmeth_ok I1 ea c hm l ?_
  exact PySem.W.callWith_K0 (first := [.ref a]) I1.kIn hm.kp (run_fnS (us := [.ref a]) (vs := [.ref a]) F hr hb (hx σ) I1 (.cons rfl .nil) q)
end
end Mw

/-! try: .. except x as n: .. except y: .. -/
namespace Mw
open PySem PySem.Spec PyProof.Rows L2
/-- what the clauses wish of an exception of the body -/
def wAs2 (K : PySem.W.Frag) (c c2 : Value) (i : Nat) (ts ts2 : Addr → Value → Option Addr → TS) (Wout : WX) (D : Ends) : WX := fun cls d σ H =>
  ∃ b, PySem.W.exmOne K cls c = some b ∧ (b = true → ∀ a, H a = none → ts a cls d { nx := fun σ' H' => D.nx (σ'.set i none) H', rt := D.rt, bk := fun σ' H' => D.bk (σ'.set i none) H', ct := fun σ' H' => D.ct (σ'.set i none) H' } (σ.set i (some (.ref a))) H) ∧
    (b = false → wMany K Wout D [(c2, ts2)] cls d σ H)
section
variable {X : Cx} {x x2 n : Str} {c c2 : Value} {i : Nat} {body suite suite2 : List Stmt} {b₀ b₂ : Stmt} {np np2 pos pos' pos2 : Pos} {tb : WX → TS} {ts ts2 : Addr → Value → Option Addr → TS} {Wout : WX}
theorem ps_try_as2 (hs : X.stack = X.env :: X.outer) (hf : X.env.frame = some X.env.locals) (hN : X.N.Nodup) (hi : X.N[i]? = some n) (hln : X.env.kindOf n = some .local) (hc : Names X x c) (hc2 : Names X x2 c2) (tk : Takes X Wout)
    (hb : ∀ (W : WX) (pn : List (Addr × Obj)) (xe : Value → Shared → Prop), Takes (X.tr pn xe) W → PassesOwn (model X.prog X.w) X.A X.env xe → PSs (X.tr pn xe) body (tb W))
    (hsu : ∀ (a : Addr) (oe : Obj) (cls : Value) (d : Option Addr) (pn : List (Addr × Obj)), Zc cls d oe → (∃ vs, oe.data = .fields vs) → PSs (X.suite a ((a, oe) :: pn)) (b₀ :: suite) (ts a cls d))
    (hsu2 : ∀ (a : Addr) (oe : Obj) (cls : Value) (d : Option Addr) (pn : List (Addr × Obj)), Zc cls d oe → (∃ vs, oe.data = .fields vs) → PSs (X.suite a ((a, oe) :: pn)) (b₂ :: suite2) (ts2 a cls d)) :
    PS X (.Try body [.ExceptHandler (some (.Name x np)) (some n) (b₀ :: suite) pos', .ExceptHandler (some (.Name x2 np2)) none (b₂ :: suite2) pos2] [] [] pos) (fun D σ H => tb (wAs2 X.K c c2 i ts ts2 Wout D) D σ H) := by
  refine ⟨fun pins s σ H D I h => ?_⟩
  have ok := I.ok
  have hfr : X.A.frames = some (X.env :: X.outer) := by rw [ok.frames, hs]
  have hloc : Loc X.env.scope n := .inl hln
  refine wpAny_Try_except ?_
  refine wpAny_mono ((hb (wAs2 X.K c c2 i ts ts2 Wout D) (X.pn ++ pins) (fun e s₁ => wpAny (model X.prog X.w) X.A (noteFrame e X.env) (fun _ s₂ => wpAny (model X.prog X.w) X.A (setFlight e none) (fun _ s₃ =>
    wpAny (model X.prog X.w) X.A (handleBy e X.env [.ExceptHandler (some (.Name x np)) (some n) (b₀ :: suite) pos', .ExceptHandler (some (.Name x2 np2)) none (b₂ :: suite2) pos2]) (SP X pins D) X.xe s₃) X.xe s₂) X.xe s₁) (fun u s' xx => ?_) PassesOwn.looking).run [] s σ H D (I.toTry _) h) (fun f s1 hsp => ?_) (fun e s1 he => he)
  · -- the catch
    obtain ⟨a, B, sI, pins', σ', H', cls, d, rfl, J', nb, up, sky, na, os, ag, b, hb1, hyes, hno⟩ := xx
    have J : Inv X pins σ' H' sI := J'.ofTry ok
    have sky' : Sky B (X.env :: X.outer) a (Zc cls d) X.env.locals s'.heap := by rw [← hs]; exact sky
    show wpAny (model X.prog X.w) X.A (noteFrame (.ref a) X.env) _ _ _
    refine Sky.land Zc.steady hfr hf sky' fun h3 fl3 up3 => ?_
    have J3 : Inv X pins σ' H' { s' with heap := h3 } := J.landed nb fl3.1 (up.trans up3) os ag
    obtain ⟨oe3, vs3, he3, hz3, hd3⟩ := fl3.there
    have notFr : ∀ {h : Heap} {o : Obj} {vs : Array Value}, h.FunFrames B (X.env :: X.outer) → h.get? a = some o → o.data = .fields vs → a ∉ frs (X.env :: X.outer) := fun {h o vs} ff e dd hm => by
      obtain ⟨_, o', e', hnf⟩ := ff.mem hm
      rw [e] at e'; cases e'
      exact hnf _ dd
    have nfr := notFr fl3.2.2.1 he3 hd3
    have nL : a ≠ X.env.locals := fun z => nfr (List.mem_filterMap.mpr ⟨X.env, List.mem_cons_self, by rw [hf, z]⟩)
    have nF : a ∉ X.fs := fun hm => by
      obtain ⟨e, he, q⟩ := List.mem_filterMap.mp hm
      exact nfr (List.mem_filterMap.mpr ⟨e, List.mem_cons_of_mem _ he, q⟩)
    have S3 := J3.suite he3 hd3 na nL nF
    have test : ∀ {y : Str} {cy : Value} {npy : Pos}, Names X y cy → ∀ {Q : Value → Shared → Prop} {E : Value → Shared → Prop}, Q cy { s' with heap := h3 } → wpAny (model X.prog X.w) (X.A.mark (some (.ref a))) (eval (.Name y npy) X.env) Q E { s' with heap := h3 } := by
      intro y cy npy hy Q E q
      obtain ⟨hg, hdbg, z⟩ := hy
      rcases z with hm | ⟨hm, hv, hnn⟩
      · exact ld_glob (X := X.suite a ((a, oe3) :: (X.pn ++ pins))) S3 hg hm q hdbg
      · exact ld_blt (X := X.suite a ((a, oe3) :: (X.pn ++ pins))) S3 hg hm hv q hnn hdbg
    have LT : PySem.W.Looks (model X.prog X.w) h3 (typeOf (.ref a)) cls := fun A Q E s k q => wpAny_typeOf_ref (k _ _ he3) (by rw [hz3.1]; exact q)
    refine wpAny_handleBy_cons (codeAny_handlers_test ?_) (by intro q; cases q)
    have LM := PySem.W.exm_one (M := model X.prog X.w) (J3.kIn) LT hb1
    refine test hc (LM.here ?_)
    cases b with
    | true =>
      refine codeAny_handlers_suite_as ?_
      refine HandSPX.lands_againZ fl3 fun h4 fl4 up4 => ?_
      have J4 : Inv X pins σ' H' { s' with heap := h4 } := J.landed nb fl4.1 ((up.trans up3).trans up4) os ag
      obtain ⟨oe4, vs4, he4, hz4, hd4⟩ := fl4.there
      have S4 := J4.suite he4 hd4 na nL nF
      refine store_ok (X := X.suite a ((a, oe4) :: (X.pn ++ pins))) (v := .ref a) S4 hN hi hloc rfl (fun s5 S5 => ?_) (.inr hln)
      refine wpAny_mono ((hsu a oe4 cls d (X.pn ++ pins) hz4 ⟨_, hd4⟩).run [] s5 _ H' _ S5 (hyes rfl a na)) (fun f s6 hsp => ?_) (fun _ _ z => False.elim z)
      have end_ : ∀ {σ6 : L2.St} {H6 : Hp} {Q : Shared → Prop}, Inv (X.suite a ((a, oe4) :: (X.pn ++ pins))) [] σ6 H6 s6 → (∀ s7, Inv X pins (σ6.set i none) H6 s7 → Q s7) →
          wpAny (model X.prog X.w) X.A (do bindName X.env n .none; unbindBehindTheSuite X.env n pos') (fun _ s7 => Q s7) X.xe s6 := fun {σ6 H6 Q} S6 hq => gone_ok (S6.unsuite ok) hN hi hln hq
      cases f with
      | next =>
        obtain ⟨σ6, H6, S6, q6⟩ := hsp
        exact end_ S6 fun s7 J7 => ⟨_, _, J7, q6⟩
      | brk =>
        obtain ⟨σ6, H6, S6, q6⟩ := hsp
        exact end_ S6 fun s7 J7 => ⟨_, _, J7, q6⟩
      | cont =>
        obtain ⟨σ6, H6, S6, q6⟩ := hsp
        exact end_ S6 fun s7 J7 => ⟨_, _, J7, q6⟩
      | ret u =>
        obtain ⟨v6, σ6, H6, S6, r6, q6⟩ := hsp
        exact end_ S6 fun s7 J7 => ⟨_, _, _, J7, r6, q6⟩
    | false =>
      show wpAny _ X.A (handleBy (.ref a) X.env [.ExceptHandler (some (.Name x2 np2)) none (b₂ :: suite2) pos2]) _ _ _
      obtain ⟨b2, hb2, hyes2, hno2⟩ := hno rfl
      refine wpAny_handleBy_cons (codeAny_handlers_test ?_) (by intro q; cases q)
      have LM2 := PySem.W.exm_one (M := model X.prog X.w) (J3.kIn) LT hb2
      refine test hc2 (LM2.here ?_)
      cases b2 with
      | true =>
        refine codeAny_handlers_suite ?_
        refine HandSPX.lands_againZ fl3 fun h4 fl4 up4 => ?_
        have J4 : Inv X pins σ' H' { s' with heap := h4 } := J.landed nb fl4.1 ((up.trans up3).trans up4) os ag
        obtain ⟨oe4, vs4, he4, hz4, hd4⟩ := fl4.there
        have S4 := J4.suite he4 hd4 na nL nF
        refine wpAny_mono ((hsu2 a oe4 cls d (X.pn ++ pins) hz4 ⟨_, hd4⟩).run [] _ _ H' _ S4 (hyes2 rfl a na)) (fun f s6 hsp => ?_) (fun _ _ z => False.elim z)
        cases f with
        | next =>
          obtain ⟨σ6, H6, S6, q6⟩ := hsp
          exact ⟨_, _, S6.unsuite ok, q6⟩
        | brk =>
          obtain ⟨σ6, H6, S6, q6⟩ := hsp
          exact ⟨_, _, S6.unsuite ok, q6⟩
        | cont =>
          obtain ⟨σ6, H6, S6, q6⟩ := hsp
          exact ⟨_, _, S6.unsuite ok, q6⟩
        | ret u =>
          obtain ⟨v6, σ6, H6, S6, r6, q6⟩ := hsp
          exact ⟨_, _, _, S6.unsuite ok, r6, q6⟩
      | false =>
        show wpAny _ X.A (handleBy (.ref a) X.env []) _ _ _
        refine wpAny_handleBy_nil ?_
        obtain ⟨k1, k2, k3, oe, vs, T, oT, ts', he, hz, hd, h1, hr⟩ := id fl3
        unfold PySem.passOn
        refine wpAny_bind (wpAny_field he hd h1 ?_)
        rw [if_neg (show ¬ ((Value.ref T == Value.none) = true) from by simp)]
        have fin : wpAny (model X.prog X.w) X.A (setFlight (.ref a) X.env.frame) (fun _ s4 => wpAny (model X.prog X.w) X.A (throw (.ref a) : Sem Flow) (SP X pins D) X.xe s4) X.xe { s' with heap := h3 } := by
          rw [hf]
          refine HandSPX.setFlight_upZ fl3 fun h4 hh4 up4 => wpAny_throw (tk _ _ ?_)
          exact ⟨a, B, sI, pins, σ', H', cls, d, rfl, J, nb, (up.trans up3).trans up4, .inr (.inr (by rw [hs]; exact hh4)), na, os, ag, hno2 rfl⟩
        first
          | exact wpAny_bind (wpAny_pure (wpAny_bind fin))
          | exact wpAny_bind fin
  · cases f with
    | next =>
      obtain ⟨σ', H', J', q⟩ := hsp
      exact wpAny_execs_nil ⟨σ', H', J'.ofTry ok, q⟩
    | brk =>
      obtain ⟨σ', H', J', q⟩ := hsp
      exact ⟨σ', H', J'.ofTry ok, q⟩
    | cont =>
      obtain ⟨σ', H', J', q⟩ := hsp
      exact ⟨σ', H', J'.ofTry ok, q⟩
    | ret u =>
      obtain ⟨v, σ', H', J', r, q⟩ := hsp
      exact ⟨v, σ', H', J'.ofTry ok, r, q⟩
end
end Mw


/-! The head: facts by names, one kernel run of the top. -/
namespace Mw
open PySem PySem.Spec PyProof.Rows L2
def dNoMakeInit : He.DefD := ⟨("NoMake", some "__init__"), "__init__", "NoMake.__init__", defArgs sNoMakeInit, defBody sNoMakeInit, defScope sNoMakeInit, [], []⟩
def dNoNameInit : He.DefD := ⟨("NoName", some "__init__"), "__init__", "NoName.__init__", defArgs sNoNameInit, defBody sNoNameInit, defScope sNoNameInit, [], []⟩
def dLineOf : He.DefD := ⟨("line_of", none), "line_of", "line_of", defArgs sLineOf, defBody sLineOf, defScope sLineOf, [], []⟩
def dAlikeMakes : He.DefD := ⟨("alike_makes", none), "alike_makes", "alike_makes", defArgs sAlikeMakes, defBody sAlikeMakes, defScope sAlikeMakes, [], []⟩
def dLacking : He.DefD := ⟨("lacking", none), "lacking", "lacking", defArgs sLacking, defBody sLacking, defScope sLacking, [], []⟩
def dRoadInit : He.DefD := ⟨("Road", some "__init__"), "__init__", "Road.__init__", defArgs sRoadInit, defBody sRoadInit, defScope sRoadInit, [], []⟩
def dRoadStep : He.DefD := ⟨("Road", some "step"), "step", "Road.step", defArgs sRoadStep, defBody sRoadStep, defScope sRoadStep, [], []⟩
def dRoadHasEnded : He.DefD := ⟨("Road", some "has_ended"), "has_ended", "Road.has_ended", defArgs sRoadHasEnded, defBody sRoadHasEnded, defScope sRoadHasEnded, [], []⟩
def dComeTo : He.DefD := ⟨("come_to", none), "come_to", "come_to", defArgs sComeTo, defBody sComeTo, defScope sComeTo, [], []⟩
def dWrittenText : He.DefD := ⟨("written_text", none), "written_text", "written_text", defArgs sWrittenText, defBody sWrittenText, defScope sWrittenText, [], []⟩
def dWrittenClash : He.DefD := ⟨("written_clash", none), "written_clash", "written_clash", defArgs sWrittenClash, defBody sWrittenClash, defScope sWrittenClash, [], []⟩
def dWrittenWhere : He.DefD := ⟨("written_where", none), "written_where", "written_where", defArgs sWrittenWhere, defBody sWrittenWhere, defScope sWrittenWhere, [], []⟩
def dWrittenItem : He.DefD := ⟨("written_item", none), "written_item", "written_item", defArgs sWrittenItem, defBody sWrittenItem, defScope sWrittenItem, [], []⟩
def dWrittenItems : He.DefD := ⟨("written_items", none), "written_items", "written_items", defArgs sWrittenItems, defBody sWrittenItems, defScope sWrittenItems, [], []⟩
def dIsTextOf : He.DefD := ⟨("is_text_of", none), "is_text_of", "is_text_of", defArgs sIsTextOf, defBody sIsTextOf, defScope sIsTextOf, [], []⟩
def dIsLine : He.DefD := ⟨("is_line", none), "is_line", "is_line", defArgs sIsLine, defBody sIsLine, defScope sIsLine, [], []⟩
def dIsWord : He.DefD := ⟨("is_word", none), "is_word", "is_word", defArgs sIsWord, defBody sIsWord, defScope sIsWord, [], []⟩
def dIsPath : He.DefD := ⟨("is_path", none), "is_path", "is_path", defArgs sIsPath, defBody sIsPath, defScope sIsPath, [], []⟩
def dIsRoot : He.DefD := ⟨("is_root", none), "is_root", "is_root", defArgs sIsRoot, defBody sIsRoot, defScope sIsRoot, [], []⟩
def dIsClash : He.DefD := ⟨("is_clash", none), "is_clash", "is_clash", defArgs sIsClash, defBody sIsClash, defScope sIsClash, [], []⟩
def dIsItem : He.DefD := ⟨("is_item", none), "is_item", "is_item", defArgs sIsItem, defBody sIsItem, defScope sIsItem, [], []⟩
def dIsItems : He.DefD := ⟨("is_items", none), "is_items", "is_items", defArgs sIsItems, defBody sIsItems, defScope sIsItems, [], []⟩
def dIsPlace : He.DefD := ⟨("is_place", none), "is_place", "is_place", defArgs sIsPlace, defBody sIsPlace, defScope sIsPlace, [], []⟩
def dIsWhere : He.DefD := ⟨("is_where", none), "is_where", "is_where", defArgs sIsWhere, defBody sIsWhere, defScope sIsWhere, [], []⟩
def dIsRow : He.DefD := ⟨("is_row", none), "is_row", "is_row", defArgs sIsRow, defBody sIsRow, defScope sIsRow, [], []⟩
def dIsStand : He.DefD := ⟨("is_stand", none), "is_stand", "is_stand", defArgs sIsStand, defBody sIsStand, defScope sIsStand, [], []⟩
def dWoodInit : He.DefD := ⟨("Wood", some "__init__"), "__init__", "Wood.__init__", defArgs sWoodInit, defBody sWoodInit, defScope sWoodInit, [], []⟩
def dWoodIsThere : He.DefD := ⟨("Wood", some "is_there"), "is_there", "Wood.is_there", defArgs sWoodIsThere, defBody sWoodIsThere, defScope sWoodIsThere, [], []⟩
def dWoodMakeAt : He.DefD := ⟨("Wood", some "make_at"), "make_at", "Wood.make_at", defArgs sWoodMakeAt, defBody sWoodMakeAt, defScope sWoodMakeAt, [], []⟩
def dWoodPut : He.DefD := ⟨("Wood", some "put"), "put", "Wood.put", defArgs sWoodPut, defBody sWoodPut, defScope sWoodPut, [], []⟩
def dWoodStandOf : He.DefD := ⟨("Wood", some "stand_of"), "stand_of", "Wood.stand_of", defArgs sWoodStandOf, defBody sWoodStandOf, defScope sWoodStandOf, [], []⟩
def dWoodEldersOf : He.DefD := ⟨("Wood", some "elders_of"), "elders_of", "Wood.elders_of", defArgs sWoodEldersOf, defBody sWoodEldersOf, defScope sWoodEldersOf, [], []⟩
def dWoodWordsOf : He.DefD := ⟨("Wood", some "words_of"), "words_of", "Wood.words_of", defArgs sWoodWordsOf, defBody sWoodWordsOf, defScope sWoodWordsOf, [], []⟩
def dWoodMakes : He.DefD := ⟨("Wood", some "makes"), "makes", "Wood.makes", defArgs sWoodMakes, defBody sWoodMakes, defScope sWoodMakes, [], []⟩
def dWoodNumberOf : He.DefD := ⟨("Wood", some "number_of"), "number_of", "Wood.number_of", defArgs sWoodNumberOf, defBody sWoodNumberOf, defScope sWoodNumberOf, [], []⟩
def dWoodSetName : He.DefD := ⟨("Wood", some "set_name"), "set_name", "Wood.set_name", defArgs sWoodSetName, defBody sWoodSetName, defScope sWoodSetName, [], []⟩
def dWoodNamed : He.DefD := ⟨("Wood", some "named"), "named", "Wood.named", defArgs sWoodNamed, defBody sWoodNamed, defScope sWoodNamed, [], []⟩
def dWoodDropName : He.DefD := ⟨("Wood", some "drop_name"), "drop_name", "Wood.drop_name", defArgs sWoodDropName, defBody sWoodDropName, defScope sWoodDropName, [], []⟩
def dWoodNames : He.DefD := ⟨("Wood", some "names"), "names", "Wood.names", defArgs sWoodNames, defBody sWoodNames, defScope sWoodNames, [], []⟩
def dWoodLetGo : He.DefD := ⟨("Wood", some "let_go"), "let_go", "Wood.let_go", defArgs sWoodLetGo, defBody sWoodLetGo, defScope sWoodLetGo, [], []⟩
def dLawCellAt : He.DefD := ⟨("_law_cell_at", none), "_law_cell_at", "_law_cell_at", defArgs sLawCellAt, defBody sLawCellAt, defScope sLawCellAt, [], []⟩
def dLawFeed : He.DefD := ⟨("_law_feed", none), "_law_feed", "_law_feed", defArgs sLawFeed, defBody sLawFeed, defScope sLawFeed, [], []⟩
def dLawTake : He.DefD := ⟨("_law_take", none), "_law_take", "_law_take", defArgs sLawTake, defBody sLawTake, defScope sLawTake, [], []⟩
def dLawWords : He.DefD := ⟨("_law_words", none), "_law_words", "_law_words", defArgs sLawWords, defBody sLawWords, defScope sLawWords, [], []⟩
def dLawWritten : He.DefD := ⟨("_law_written", none), "_law_written", "_law_written", defArgs sLawWritten, defBody sLawWritten, defScope sLawWritten, [], []⟩
def dLawItems : He.DefD := ⟨("_law_items", none), "_law_items", "_law_items", defArgs sLawItems, defBody sLawItems, defScope sLawItems, [], []⟩
def dLawWhere : He.DefD := ⟨("_law_where", none), "_law_where", "_law_where", defArgs sLawWhere, defBody sLawWhere, defScope sLawWhere, [], []⟩
def dLawStand : He.DefD := ⟨("_law_stand", none), "_law_stand", "_law_stand", defArgs sLawStand, defBody sLawStand, defScope sLawStand, [], []⟩
def dLawId : He.DefD := ⟨("_law_id", none), "_law_id", "_law_id", defArgs sLawId, defBody sLawId, defScope sLawId, [], []⟩
def dLawPut : He.DefD := ⟨("_law_put", none), "_law_put", "_law_put", defArgs sLawPut, defBody sLawPut, defScope sLawPut, [], []⟩
def dLawModel : He.DefD := ⟨("_law_model", none), "_law_model", "_law_model", defArgs sLawModel, defBody sLawModel, defScope sLawModel, [], []⟩
def dLawElders : He.DefD := ⟨("_law_elders", none), "_law_elders", "_law_elders", defArgs sLawElders, defBody sLawElders, defScope sLawElders, [], []⟩
def dLawLine : He.DefD := ⟨("_law_line", none), "_law_line", "_law_line", defArgs sLawLine, defBody sLawLine, defScope sLawLine, [], []⟩
def dLawIsWood : He.DefD := ⟨("_law_is_wood", none), "_law_is_wood", "_law_is_wood", defArgs sLawIsWood, defBody sLawIsWood, defScope sLawIsWood, [], []⟩
def dLawAlike : He.DefD := ⟨("_law_alike", none), "_law_alike", "_law_alike", defArgs sLawAlike, defBody sLawAlike, defScope sLawAlike, [], []⟩
def dLawPutIn : He.DefD := ⟨("_law_put_in", none), "_law_put_in", "_law_put_in", defArgs sLawPutIn, defBody sLawPutIn, defScope sLawPutIn, [], []⟩
def dLawPutInBoth : He.DefD := ⟨("_law_put_in_both", none), "_law_put_in_both", "_law_put_in_both", defArgs sLawPutInBoth, defBody sLawPutInBoth, defScope sLawPutInBoth, [], []⟩
def dLawPutSome : He.DefD := ⟨("_law_put_some", none), "_law_put_some", "_law_put_some", defArgs sLawPutSome, defBody sLawPutSome, defScope sLawPutSome, [], []⟩
def dLawLacking : He.DefD := ⟨("_law_lacking", none), "_law_lacking", "_law_lacking", defArgs sLawLacking, defBody sLawLacking, defScope sLawLacking, [], []⟩
def dLawStep : He.DefD := ⟨("_law_step", none), "_law_step", "_law_step", defArgs sLawStep, defBody sLawStep, defScope sLawStep, [], []⟩
def dLawNamed : He.DefD := ⟨("_law_named", none), "_law_named", "_law_named", defArgs sLawNamed, defBody sLawNamed, defScope sLawNamed, [], []⟩
def dLawLetGo : He.DefD := ⟨("_law_let_go", none), "_law_let_go", "_law_let_go", defArgs sLawLetGo, defBody sLawLetGo, defScope sLawLetGo, [], []⟩
def dLawStepped : He.DefD := ⟨("_law_stepped", none), "_law_stepped", "_law_stepped", defArgs sLawStepped, defBody sLawStepped, defScope sLawStepped, [], []⟩
def dLawDeed : He.DefD := ⟨("_law_deed", none), "_law_deed", "_law_deed", defArgs sLawDeed, defBody sLawDeed, defScope sLawDeed, [], []⟩
def dLawBrought : He.DefD := ⟨("_law_brought", none), "_law_brought", "_law_brought", defArgs sLawBrought, defBody sLawBrought, defScope sLawBrought, [], []⟩
def dLawWholeWoods : He.DefD := ⟨("_law_whole_woods", none), "_law_whole_woods", "_law_whole_woods", defArgs sLawWholeWoods, defBody sLawWholeWoods, defScope sLawWholeWoods, [], []⟩
def dLaw : He.DefD := ⟨("law", none), "law", "law", defArgs sLaw, defBody sLaw, defScope sLaw, [], []⟩
def fnL : List He.DefD := [dNoMakeInit, dNoNameInit, dLineOf, dAlikeMakes, dLacking, dRoadInit, dRoadStep, dRoadHasEnded, dComeTo, dWrittenText, dWrittenClash, dWrittenWhere, dWrittenItem, dWrittenItems, dIsTextOf, dIsLine, dIsWord, dIsPath, dIsRoot, dIsClash, dIsItem, dIsItems, dIsPlace, dIsWhere, dIsRow, dIsStand, dWoodInit, dWoodIsThere, dWoodMakeAt, dWoodPut, dWoodStandOf, dWoodEldersOf, dWoodWordsOf, dWoodMakes, dWoodNumberOf, dWoodSetName, dWoodNamed, dWoodDropName, dWoodNames, dWoodLetGo, dLawCellAt, dLawFeed, dLawTake, dLawWords, dLawWritten, dLawItems, dLawWhere, dLawStand, dLawId, dLawPut, dLawModel, dLawElders, dLawLine, dLawIsWood, dLawAlike, dLawPutIn, dLawPutInBoth, dLawPutSome, dLawLacking, dLawStep, dLawNamed, dLawLetGo, dLawStepped, dLawDeed, dLawBrought, dLawWholeWoods, dLaw]
def faL : List He.Fa := [.glo "line_of", .glo "alike_makes", .glo "lacking", .glo "come_to", .glo "written_text", .glo "written_clash", .glo "written_where", .glo "written_item", .glo "written_items", .glo "is_text_of", .glo "is_line", .glo "is_word", .glo "is_path", .glo "is_root", .glo "is_clash", .glo "is_item", .glo "is_items", .glo "is_place", .glo "is_where", .glo "is_row", .glo "is_stand", .glo "_law_cell_at", .glo "_law_feed", .glo "_law_take", .glo "_law_words", .glo "_law_written", .glo "_law_items", .glo "_law_where", .glo "_law_stand", .glo "_law_id", .glo "_law_put", .glo "_law_model", .glo "_law_elders", .glo "_law_line", .glo "_law_is_wood", .glo "_law_alike", .glo "_law_put_in", .glo "_law_put_in_both", .glo "_law_put_some", .glo "_law_lacking", .glo "_law_step", .glo "_law_named", .glo "_law_let_go", .glo "_law_stepped", .glo "_law_deed", .glo "_law_brought", .glo "_law_whole_woods", .glo "law", .glo "WoodError", .glo "NoStand", .glo "Ended", .glo "NoMake", .glo "NoName", .glo "Road", .glo "Wood", .free "len", .free "all", .free "isinstance", .free "str", .free "int", .free "tuple", .free "bool", .free "ord", .free "zip", .free "sorted", .free "list", .free "range", .free "min", .free "ValueError", .str "SMALL" "abcdefghijklmnopqrstuvwxyz", .str "FIGURES" "0123456789", .int "MOST_SIGNS" 40, .int "MOST_LETTERS" 8, .int "MOST_WORDS" 4, .int "MOST_FIGURES" 3, .cls "Road", .mkr "Road", .cls "Wood", .mkr "Wood", .noat "Road" "here", .noat "Road" "there", .noat "Road" "word", .noat "Road" "over", .noat "Wood" "kept", .noat "Wood" "known", .noat "Wood" "coming", .noat "Wood" "called", .meth "Road" "step", .meth "Road" "has_ended", .meth "Wood" "is_there", .meth "Wood" "make_at", .meth "Wood" "put", .meth "Wood" "stand_of", .meth "Wood" "elders_of", .meth "Wood" "words_of", .meth "Wood" "makes", .meth "Wood" "number_of", .meth "Wood" "set_name", .meth "Wood" "named", .meth "Wood" "drop_name", .meth "Wood" "names", .meth "Wood" "let_go", .exc "Ended", .exm "NoName" "NoName" true, .exm "Ended" "NoName" false, .exm "Ended" "Ended" true]

/-! ### own exception classes with an __init__ of their own -/
def oexB (K : PySem.W.Frag) (C : Addr) : Bool := (match K.lookup C with
  | some ⟨.type t, _, .cls cd, sl⟩ => (match cd.mro, sl.toList with
    | .ref C2 :: bm, [_, _, _, _, some (.builtin n), _] => decide (t = "type") && (decide (C2 = C) && (decide (n = "ValueError.__new__") && (cd.hasDict && (!cd.hasDel && PySem.HandSPX.refsVE bm))))
    | _, _ => false)
  | _ => false) && (He.eqO (PySem.W.findIn K (.ref C) "__setattr__") (some (some (.builtin "object.__setattr__"))) && (decide (PySem.W.subIn K (.ref C) (.type "BaseException") = some true) && (decide (PySem.W.typeIn K (.ref C) = some (.type "type")) && PySem.W.keepIn K (.ref C))))
theorem oexB_ok {K : PySem.W.Frag} {C : Addr} (h : oexB K C = true) : OexC K C := by
  obtain ⟨h1, h⟩ := He.ba h
  obtain ⟨h2, h⟩ := He.ba h
  obtain ⟨h3, h⟩ := He.ba h
  obtain ⟨h4, h5⟩ := He.ba h
  refine ⟨?_, He.eqO_ok h2, of_decide_eq_true h3, of_decide_eq_true h4, h5⟩
  split at h1
  · rename_i t dd cd sl ho
    split at h1
    · rename_i C2 bm k0 k1 k2 k3 n k5 hm hs
      obtain ⟨g1, h1⟩ := He.ba h1
      obtain ⟨g2, h1⟩ := He.ba h1
      obtain ⟨g3, h1⟩ := He.ba h1
      obtain ⟨g4, h1⟩ := He.ba h1
      obtain ⟨g5, g6⟩ := He.ba h1
      obtain ⟨nm, bs, mro, ns, qn, hd, sn, sub, ab, col, del⟩ := cd
      dsimp only at hm g4 g5
      have e1 := of_decide_eq_true g1
      have e2 := of_decide_eq_true g2
      have e3 := of_decide_eq_true g3
      have e5 : del = false := by
        cases del with
        | false => rfl
        | true => cases g5
      subst e1 e2 e3 e5 hm g4
      have hsl : sl = #[k0, k1, k2, k3, some (.builtin "ValueError.__new__"), k5] := by
        obtain ⟨l⟩ := sl
        simp only at hs
        rw [hs]
      subst hsl
      exact ⟨nm, qn, ns, bs, bm, sn, sub, ab, col, dd, k0, k1, k2, k3, k5, ho, g6⟩
    · cases h1
  · cases h1
/-- WoodError.__init__(..) read off the class -/
def winB (K : PySem.W.Frag) (C : Addr) : Bool := PySem.W.readsIn K C (.type "type") && (He.eqO (PySem.W.specialIn K (.ref C) "__getattribute__") (some (some (.builtin "type.__getattribute__"))) &&
  (match PySem.W.findCls K (.ref C) (.type "type") "__init__" with
  | some (.val (.builtin b)) => decide (b = "ValueError.__init__")
  | _ => false))
def exB (K : PySem.W.Frag) : Bool := oexB K (He.ga K "NoName") && (xfB K (He.ga K "NoName") && (He.eqO (PySem.W.findIn K (.ref (He.ga K "NoName")) "name") (some none) &&
  (He.eqO (PySem.W.findIn K (.ref (He.ga K "NoName")) "__init__") (some (some (.ref (He.ma K (He.ga K "NoName") "__init__")))) && (decide (PySem.W.typeIn K (.ref (He.ma K (He.ga K "NoName") "__init__")) = some (.type "function")) && winB K (He.ga K "WoodError")))))
/-! ### the hook: what the module's names reach, and the statics -/
def asM (g : Addr → Option Obj) (n : Nat) : List Addr := PySem.cStatics :: He.asD g n
abbrev AlM : Type := He.AlD × Bool
def obsM (n : Nat) (g : Addr → Option Obj) : AlM := (He.obsD faL fnL (He.frG g (asM g n)), exB (He.frG g (asM g n)))
structure SaysM (K : PySem.W.Frag) : Prop where
  d : He.SaysD faL fnL K
  x : exB K = true
def hookM (n : Nat) : PySem.W.Hook where
  α := AlM
  obs := fun s => obsM n s.heap.get?
  val := fun _ => (He.valD fnL, true)
  says := fun _ h => ∃ K : PySem.W.Frag, K.In h ∧ SaysM K
  of := fun _ _ e => ⟨_, He.frG_in, ⟨congrArg (fun z : AlM => z.1) e, congrArg (fun z : AlM => z.2) e⟩⟩
  keeps := fun _ _ _ ⟨K, hK, c⟩ k => ⟨K, PySem.W.Frag.In.keeps hK k, c⟩
theorem obsM_eq {n : Nat} {g : Addr → Option Obj} {s : Shared} (h : ∀ a, g a = s.heap.get? a) : obsM n g = (hookM n).obs s := by
  have e : g = s.heap.get? := funext h
  rw [e] <;> rfl
abbrev RR : PySem.W.OpenRow := PySem.W.OpenLaw.row PySem.Challenge.rw_makeswood_k98_whole_roads_that_stop
abbrev hkM : PySem.W.Hook := hookM 5
def obM (s : PySem.W.SharedT) : AlM := obsM 5 (HandSHeadRun.getT s)
theorem obM_eq (s : PySem.W.SharedT) : obM s = hkM.obs s.abs := obsM_eq (HandSHeadRun.getT_eq s)
end Mw


/-! What the head tells, fact by fact; how defs and methods of the text are called. -/
namespace Mw
open PySem PySem.Spec PyProof.Rows L2
/-- the function object at a place -/
def fdA (K : PySem.W.Frag) (p : Str × Option Str) : FuncData := match K.lookup (He.fAd K p) with
  | some ⟨_, _, .func fd, _⟩ => fd
  | _ => default
/-- what the head tells -/
structure Tx (K : PySem.W.Frag) (mg : Str → Option Value) : Prop where
  ex : ∃ h : Heap, K.In h ∧ h.Ns mainGlobals mg
  c : SaysM K
theorem fdA_of {K : PySem.W.Frag} {p : Str × Option Str} {x qual : Str} {params : Arguments} {body : List Stmt} {scope : Scope} {dvs : List V} {kws : List (Str × V)} {fd : FuncData} (F : FunD K x qual params body scope dvs kws (He.fAd K p) fd) :
    FunD K x qual params body scope dvs kws (He.fAd K p) (fdA K p) := by
  obtain ⟨oc, od, dV, kV, doc, pm, an, cdv, ct, osl, e1, lk, h⟩ := F.ex
  have e : fdA K p = fd := by
    unfold fdA
    rw [lk]
  rw [e]
  exact F
/-- a def that may be called by its name -/
structure DefOk (K : PySem.W.Frag) (mg : Str → Option Value) (x : Str) (ps : List Str) : Prop where
  g : mg x = some (.ref (He.ga K x))
  kp : PySem.W.keepIn K (.ref (He.ga K x)) = true
  b : Binds K (fdA K (x, none)) ps []
/-- a method -/
structure MetOk (K : PySem.W.Frag) (C m : Str) (ps : List Str) : Prop where
  cl : Cls K (He.ga K C)
  me : Meth K (He.ga K C) m (He.ma K (He.ga K C) m)
  b : Binds K (fdA K (C, some m)) ps []
/-- a class that is called -/
structure MkOk (K : PySem.W.Frag) (mg : Str → Option Value) (C : Str) (ps : List Str) : Prop where
  g : mg C = some (.ref (He.ga K C))
  mkc : Mk K (He.ga K C) (He.ma K (He.ga K C) "__init__")
  b : Binds K (fdA K (C, some "__init__")) ps []
abbrev OkG (P : Program) (w : World) (K : PySem.W.Frag) (mg : Str → Option Value) (base : Heap) (CX : CXT) (k : Nat) (x : Str) (ps : List Str) (sp : Sp) : Prop := FnOk P w K mg base CX k (He.ga K x) (fdA K (x, none)) ps sp
abbrev OkM (P : Program) (w : World) (K : PySem.W.Frag) (mg : Str → Option Value) (base : Heap) (CX : CXT) (k : Nat) (C m : Str) (ps : List Str) (sp : Sp) : Prop := FnOk P w K mg base CX k (He.ma K (He.ga K C) m) (fdA K (C, some m)) ps sp
section
variable {X : Cx} {CX : CXT} {k : Nat} {ps : List Str} {sp : Sp} {E : XK} {x C m : Str} {p pos apos : Pos} {e o : Expr} {es : List Expr} {ta : TE} {t : TA}
theorem pcall (D : DefOk X.K X.mg x ps) (G : OkG X.prog X.w X.K X.mg X.base CX k x ps sp) (hr : Room k X.A) (hx : Passes CX X E) (ha : PA X (e :: es) t) (hg : Gl X x := by rfl)
    (hdb : (x == ("__debug__" : Str)) = false := by decide) (he : starEach (e :: es) X.env = (false, eval e X.env) :: starEach es X.env := by rfl) (hpl : (backTo pos (starEach es X.env)).any (·.1) = false := by rfl) :
    PE X (.Call (.Name x p) (e :: es) [] pos) (tCall sp [] E t) := pe_call G hr hg D.g D.kp D.b .nil hx ha hdb he hpl
theorem pcall0 (D : DefOk X.K X.mg x ps) (G : OkG X.prog X.w X.K X.mg X.base CX k x ps sp) (hr : Room k X.A) (hx : Passes CX X E) (hg : Gl X x := by rfl)
    (hdb : (x == ("__debug__" : Str)) = false := by decide) :
    PE X (.Call (.Name x p) [] [] pos) (tCall sp [] E tNil) := pe_call0 G hr hg D.g D.kp D.b .nil hx hdb
theorem pmeth {pl : Sem Bool} (he : PE X o ta) (D : MetOk X.K C m ps) (G : OkM X.prog X.w X.K X.mg X.base CX k C m ps sp) (hr : Room k X.A) (hx : Passes CX X E) (ha : PA X (e :: es) t)
    (hst : starEach (e :: es) X.env = (false, eval e X.env) :: starEach es X.env := by rfl) (hpl : (backTo pos (starEach es X.env)).any (·.1) = false := by rfl)
    (ht : eval (.Call (.Attribute o m apos) (e :: es) [] pos) X.env = (do
      let ov ← eval o X.env
      standAt apos.atName
      let (f, first) ← holding [ov] (getMethod ov m pl)
      callWith pos f first (backTo pos (starEach (e :: es) X.env)) (backToKw pos (keywordEach [] X.env))) := by rfl) :
    PE X (.Call (.Attribute o m apos) (e :: es) [] pos) (tMeth (He.ga X.K C) m sp [] E ta t) := pe_meth he D.cl D.me G hr D.b .nil hx ha hst hpl ht
theorem pmeth0 {pl : Sem Bool} (he : PE X o ta) (D : MetOk X.K C m ps) (G : OkM X.prog X.w X.K X.mg X.base CX k C m ps sp) (hr : Room k X.A) (hx : Passes CX X E)
    (ht : eval (.Call (.Attribute o m apos) [] [] pos) X.env = (do
      let ov ← eval o X.env
      standAt apos.atName
      let (f, first) ← holding [ov] (getMethod ov m pl)
      callWith pos f first (backTo pos (starEach [] X.env)) (backToKw pos (keywordEach [] X.env))) := by rfl) :
    PE X (.Call (.Attribute o m apos) [] [] pos) (tMeth (He.ga X.K C) m sp [] E ta tNil) := pe_meth0 he D.cl D.me G hr D.b .nil hx ht
theorem pmake (D : MkOk X.K X.mg C ps) (G : OkM X.prog X.w X.K X.mg X.base CX k C "__init__" ps sp) (hr : Room (k + 1) X.A) (hx : Passes CX X E) (ha : PA X (e :: es) t) (hg : Gl X C := by rfl)
    (hdb : (C == ("__debug__" : Str)) = false := by decide) (he : starEach (e :: es) X.env = (false, eval e X.env) :: starEach es X.env := by rfl) (hpl : (backTo pos (starEach es X.env)).any (·.1) = false := by rfl) :
    PE X (.Call (.Name C p) (e :: es) [] pos) (tMake (He.ga X.K C) sp [] E t) := pe_make D.mkc G hr hg D.g D.b .nil hx ha hdb he hpl
theorem pmake0 (D : MkOk X.K X.mg C ps) (G : OkM X.prog X.w X.K X.mg X.base CX k C "__init__" ps sp) (hr : Room (k + 1) X.A) (hx : Passes CX X E) (hg : Gl X C := by rfl) (hdb : (C == ("__debug__" : Str)) = false := by decide) :
    PE X (.Call (.Name C p) [] [] pos) (tMake (He.ga X.K C) sp [] E tNil) := pe_make0 D.mkc G hr hg D.g D.b .nil hx hdb
end
section
variable {K : PySem.W.Frag} {mg : Str → Option Value}
theorem Tx.g_line_of (T : Tx K mg) : mg "line_of" = some (.ref (He.ga K "line_of")) := by
  obtain ⟨h, X, G⟩ := T.ex
  exact He.glo_ok X G (T.c.d.fact 0 (f := .glo "line_of") rfl)
theorem Tx.g_alike_makes (T : Tx K mg) : mg "alike_makes" = some (.ref (He.ga K "alike_makes")) := by
  obtain ⟨h, X, G⟩ := T.ex
  exact He.glo_ok X G (T.c.d.fact 1 (f := .glo "alike_makes") rfl)
theorem Tx.g_lacking (T : Tx K mg) : mg "lacking" = some (.ref (He.ga K "lacking")) := by
  obtain ⟨h, X, G⟩ := T.ex
  exact He.glo_ok X G (T.c.d.fact 2 (f := .glo "lacking") rfl)
theorem Tx.g_come_to (T : Tx K mg) : mg "come_to" = some (.ref (He.ga K "come_to")) := by
  obtain ⟨h, X, G⟩ := T.ex
  exact He.glo_ok X G (T.c.d.fact 3 (f := .glo "come_to") rfl)
theorem Tx.g_written_text (T : Tx K mg) : mg "written_text" = some (.ref (He.ga K "written_text")) := by
  obtain ⟨h, X, G⟩ := T.ex
  exact He.glo_ok X G (T.c.d.fact 4 (f := .glo "written_text") rfl)
theorem Tx.g_written_clash (T : Tx K mg) : mg "written_clash" = some (.ref (He.ga K "written_clash")) := by
  obtain ⟨h, X, G⟩ := T.ex
  exact He.glo_ok X G (T.c.d.fact 5 (f := .glo "written_clash") rfl)
theorem Tx.g_written_where (T : Tx K mg) : mg "written_where" = some (.ref (He.ga K "written_where")) := by
  obtain ⟨h, X, G⟩ := T.ex
  exact He.glo_ok X G (T.c.d.fact 6 (f := .glo "written_where") rfl)
theorem Tx.g_written_item (T : Tx K mg) : mg "written_item" = some (.ref (He.ga K "written_item")) := by
  obtain ⟨h, X, G⟩ := T.ex
  exact He.glo_ok X G (T.c.d.fact 7 (f := .glo "written_item") rfl)
theorem Tx.g_written_items (T : Tx K mg) : mg "written_items" = some (.ref (He.ga K "written_items")) := by
  obtain ⟨h, X, G⟩ := T.ex
  exact He.glo_ok X G (T.c.d.fact 8 (f := .glo "written_items") rfl)
theorem Tx.g_is_text_of (T : Tx K mg) : mg "is_text_of" = some (.ref (He.ga K "is_text_of")) := by
  obtain ⟨h, X, G⟩ := T.ex
  exact He.glo_ok X G (T.c.d.fact 9 (f := .glo "is_text_of") rfl)
theorem Tx.g_is_line (T : Tx K mg) : mg "is_line" = some (.ref (He.ga K "is_line")) := by
  obtain ⟨h, X, G⟩ := T.ex
  exact He.glo_ok X G (T.c.d.fact 10 (f := .glo "is_line") rfl)
theorem Tx.g_is_word (T : Tx K mg) : mg "is_word" = some (.ref (He.ga K "is_word")) := by
  obtain ⟨h, X, G⟩ := T.ex
  exact He.glo_ok X G (T.c.d.fact 11 (f := .glo "is_word") rfl)
theorem Tx.g_is_path (T : Tx K mg) : mg "is_path" = some (.ref (He.ga K "is_path")) := by
  obtain ⟨h, X, G⟩ := T.ex
  exact He.glo_ok X G (T.c.d.fact 12 (f := .glo "is_path") rfl)
theorem Tx.g_is_root (T : Tx K mg) : mg "is_root" = some (.ref (He.ga K "is_root")) := by
  obtain ⟨h, X, G⟩ := T.ex
  exact He.glo_ok X G (T.c.d.fact 13 (f := .glo "is_root") rfl)
theorem Tx.g_is_clash (T : Tx K mg) : mg "is_clash" = some (.ref (He.ga K "is_clash")) := by
  obtain ⟨h, X, G⟩ := T.ex
  exact He.glo_ok X G (T.c.d.fact 14 (f := .glo "is_clash") rfl)
theorem Tx.g_is_item (T : Tx K mg) : mg "is_item" = some (.ref (He.ga K "is_item")) := by
  obtain ⟨h, X, G⟩ := T.ex
  exact He.glo_ok X G (T.c.d.fact 15 (f := .glo "is_item") rfl)
theorem Tx.g_is_items (T : Tx K mg) : mg "is_items" = some (.ref (He.ga K "is_items")) := by
  obtain ⟨h, X, G⟩ := T.ex
  exact He.glo_ok X G (T.c.d.fact 16 (f := .glo "is_items") rfl)
theorem Tx.g_is_place (T : Tx K mg) : mg "is_place" = some (.ref (He.ga K "is_place")) := by
  obtain ⟨h, X, G⟩ := T.ex
  exact He.glo_ok X G (T.c.d.fact 17 (f := .glo "is_place") rfl)
theorem Tx.g_is_where (T : Tx K mg) : mg "is_where" = some (.ref (He.ga K "is_where")) := by
  obtain ⟨h, X, G⟩ := T.ex
  exact He.glo_ok X G (T.c.d.fact 18 (f := .glo "is_where") rfl)
theorem Tx.g_is_row (T : Tx K mg) : mg "is_row" = some (.ref (He.ga K "is_row")) := by
  obtain ⟨h, X, G⟩ := T.ex
  exact He.glo_ok X G (T.c.d.fact 19 (f := .glo "is_row") rfl)
theorem Tx.g_is_stand (T : Tx K mg) : mg "is_stand" = some (.ref (He.ga K "is_stand")) := by
  obtain ⟨h, X, G⟩ := T.ex
  exact He.glo_ok X G (T.c.d.fact 20 (f := .glo "is_stand") rfl)
theorem Tx.g__law_cell_at (T : Tx K mg) : mg "_law_cell_at" = some (.ref (He.ga K "_law_cell_at")) := by
  obtain ⟨h, X, G⟩ := T.ex
  exact He.glo_ok X G (T.c.d.fact 21 (f := .glo "_law_cell_at") rfl)
theorem Tx.g__law_feed (T : Tx K mg) : mg "_law_feed" = some (.ref (He.ga K "_law_feed")) := by
  obtain ⟨h, X, G⟩ := T.ex
  exact He.glo_ok X G (T.c.d.fact 22 (f := .glo "_law_feed") rfl)
theorem Tx.g__law_take (T : Tx K mg) : mg "_law_take" = some (.ref (He.ga K "_law_take")) := by
  obtain ⟨h, X, G⟩ := T.ex
  exact He.glo_ok X G (T.c.d.fact 23 (f := .glo "_law_take") rfl)
theorem Tx.g__law_words (T : Tx K mg) : mg "_law_words" = some (.ref (He.ga K "_law_words")) := by
  obtain ⟨h, X, G⟩ := T.ex
  exact He.glo_ok X G (T.c.d.fact 24 (f := .glo "_law_words") rfl)
theorem Tx.g__law_written (T : Tx K mg) : mg "_law_written" = some (.ref (He.ga K "_law_written")) := by
  obtain ⟨h, X, G⟩ := T.ex
  exact He.glo_ok X G (T.c.d.fact 25 (f := .glo "_law_written") rfl)
theorem Tx.g__law_items (T : Tx K mg) : mg "_law_items" = some (.ref (He.ga K "_law_items")) := by
  obtain ⟨h, X, G⟩ := T.ex
  exact He.glo_ok X G (T.c.d.fact 26 (f := .glo "_law_items") rfl)
theorem Tx.g__law_where (T : Tx K mg) : mg "_law_where" = some (.ref (He.ga K "_law_where")) := by
  obtain ⟨h, X, G⟩ := T.ex
  exact He.glo_ok X G (T.c.d.fact 27 (f := .glo "_law_where") rfl)
theorem Tx.g__law_stand (T : Tx K mg) : mg "_law_stand" = some (.ref (He.ga K "_law_stand")) := by
  obtain ⟨h, X, G⟩ := T.ex
  exact He.glo_ok X G (T.c.d.fact 28 (f := .glo "_law_stand") rfl)
theorem Tx.g__law_id (T : Tx K mg) : mg "_law_id" = some (.ref (He.ga K "_law_id")) := by
  obtain ⟨h, X, G⟩ := T.ex
  exact He.glo_ok X G (T.c.d.fact 29 (f := .glo "_law_id") rfl)
theorem Tx.g__law_put (T : Tx K mg) : mg "_law_put" = some (.ref (He.ga K "_law_put")) := by
  obtain ⟨h, X, G⟩ := T.ex
  exact He.glo_ok X G (T.c.d.fact 30 (f := .glo "_law_put") rfl)
theorem Tx.g__law_model (T : Tx K mg) : mg "_law_model" = some (.ref (He.ga K "_law_model")) := by
  obtain ⟨h, X, G⟩ := T.ex
  exact He.glo_ok X G (T.c.d.fact 31 (f := .glo "_law_model") rfl)
theorem Tx.g__law_elders (T : Tx K mg) : mg "_law_elders" = some (.ref (He.ga K "_law_elders")) := by
  obtain ⟨h, X, G⟩ := T.ex
  exact He.glo_ok X G (T.c.d.fact 32 (f := .glo "_law_elders") rfl)
theorem Tx.g__law_line (T : Tx K mg) : mg "_law_line" = some (.ref (He.ga K "_law_line")) := by
  obtain ⟨h, X, G⟩ := T.ex
  exact He.glo_ok X G (T.c.d.fact 33 (f := .glo "_law_line") rfl)
theorem Tx.g__law_is_wood (T : Tx K mg) : mg "_law_is_wood" = some (.ref (He.ga K "_law_is_wood")) := by
  obtain ⟨h, X, G⟩ := T.ex
  exact He.glo_ok X G (T.c.d.fact 34 (f := .glo "_law_is_wood") rfl)
theorem Tx.g__law_alike (T : Tx K mg) : mg "_law_alike" = some (.ref (He.ga K "_law_alike")) := by
  obtain ⟨h, X, G⟩ := T.ex
  exact He.glo_ok X G (T.c.d.fact 35 (f := .glo "_law_alike") rfl)
theorem Tx.g__law_put_in (T : Tx K mg) : mg "_law_put_in" = some (.ref (He.ga K "_law_put_in")) := by
  obtain ⟨h, X, G⟩ := T.ex
  exact He.glo_ok X G (T.c.d.fact 36 (f := .glo "_law_put_in") rfl)
theorem Tx.g__law_put_in_both (T : Tx K mg) : mg "_law_put_in_both" = some (.ref (He.ga K "_law_put_in_both")) := by
  obtain ⟨h, X, G⟩ := T.ex
  exact He.glo_ok X G (T.c.d.fact 37 (f := .glo "_law_put_in_both") rfl)
theorem Tx.g__law_put_some (T : Tx K mg) : mg "_law_put_some" = some (.ref (He.ga K "_law_put_some")) := by
  obtain ⟨h, X, G⟩ := T.ex
  exact He.glo_ok X G (T.c.d.fact 38 (f := .glo "_law_put_some") rfl)
theorem Tx.g__law_lacking (T : Tx K mg) : mg "_law_lacking" = some (.ref (He.ga K "_law_lacking")) := by
  obtain ⟨h, X, G⟩ := T.ex
  exact He.glo_ok X G (T.c.d.fact 39 (f := .glo "_law_lacking") rfl)
theorem Tx.g__law_step (T : Tx K mg) : mg "_law_step" = some (.ref (He.ga K "_law_step")) := by
  obtain ⟨h, X, G⟩ := T.ex
  exact He.glo_ok X G (T.c.d.fact 40 (f := .glo "_law_step") rfl)
theorem Tx.g__law_named (T : Tx K mg) : mg "_law_named" = some (.ref (He.ga K "_law_named")) := by
  obtain ⟨h, X, G⟩ := T.ex
  exact He.glo_ok X G (T.c.d.fact 41 (f := .glo "_law_named") rfl)
theorem Tx.g__law_let_go (T : Tx K mg) : mg "_law_let_go" = some (.ref (He.ga K "_law_let_go")) := by
  obtain ⟨h, X, G⟩ := T.ex
  exact He.glo_ok X G (T.c.d.fact 42 (f := .glo "_law_let_go") rfl)
theorem Tx.g__law_stepped (T : Tx K mg) : mg "_law_stepped" = some (.ref (He.ga K "_law_stepped")) := by
  obtain ⟨h, X, G⟩ := T.ex
  exact He.glo_ok X G (T.c.d.fact 43 (f := .glo "_law_stepped") rfl)
theorem Tx.g__law_deed (T : Tx K mg) : mg "_law_deed" = some (.ref (He.ga K "_law_deed")) := by
  obtain ⟨h, X, G⟩ := T.ex
  exact He.glo_ok X G (T.c.d.fact 44 (f := .glo "_law_deed") rfl)
theorem Tx.g__law_brought (T : Tx K mg) : mg "_law_brought" = some (.ref (He.ga K "_law_brought")) := by
  obtain ⟨h, X, G⟩ := T.ex
  exact He.glo_ok X G (T.c.d.fact 45 (f := .glo "_law_brought") rfl)
theorem Tx.g__law_whole_woods (T : Tx K mg) : mg "_law_whole_woods" = some (.ref (He.ga K "_law_whole_woods")) := by
  obtain ⟨h, X, G⟩ := T.ex
  exact He.glo_ok X G (T.c.d.fact 46 (f := .glo "_law_whole_woods") rfl)
theorem Tx.g_law (T : Tx K mg) : mg "law" = some (.ref (He.ga K "law")) := by
  obtain ⟨h, X, G⟩ := T.ex
  exact He.glo_ok X G (T.c.d.fact 47 (f := .glo "law") rfl)
theorem Tx.g_WoodError (T : Tx K mg) : mg "WoodError" = some (.ref (He.ga K "WoodError")) := by
  obtain ⟨h, X, G⟩ := T.ex
  exact He.glo_ok X G (T.c.d.fact 48 (f := .glo "WoodError") rfl)
theorem Tx.g_NoStand (T : Tx K mg) : mg "NoStand" = some (.ref (He.ga K "NoStand")) := by
  obtain ⟨h, X, G⟩ := T.ex
  exact He.glo_ok X G (T.c.d.fact 49 (f := .glo "NoStand") rfl)
theorem Tx.g_Ended (T : Tx K mg) : mg "Ended" = some (.ref (He.ga K "Ended")) := by
  obtain ⟨h, X, G⟩ := T.ex
  exact He.glo_ok X G (T.c.d.fact 50 (f := .glo "Ended") rfl)
theorem Tx.g_NoMake (T : Tx K mg) : mg "NoMake" = some (.ref (He.ga K "NoMake")) := by
  obtain ⟨h, X, G⟩ := T.ex
  exact He.glo_ok X G (T.c.d.fact 51 (f := .glo "NoMake") rfl)
theorem Tx.g_NoName (T : Tx K mg) : mg "NoName" = some (.ref (He.ga K "NoName")) := by
  obtain ⟨h, X, G⟩ := T.ex
  exact He.glo_ok X G (T.c.d.fact 52 (f := .glo "NoName") rfl)
theorem Tx.g_Road (T : Tx K mg) : mg "Road" = some (.ref (He.ga K "Road")) := by
  obtain ⟨h, X, G⟩ := T.ex
  exact He.glo_ok X G (T.c.d.fact 53 (f := .glo "Road") rfl)
theorem Tx.g_Wood (T : Tx K mg) : mg "Wood" = some (.ref (He.ga K "Wood")) := by
  obtain ⟨h, X, G⟩ := T.ex
  exact He.glo_ok X G (T.c.d.fact 54 (f := .glo "Wood") rfl)
theorem Tx.b_len (T : Tx K mg) : mg "len" = none := by
  obtain ⟨h, X, G⟩ := T.ex
  exact He.free_ok X G (T.c.d.fact 55 (f := .free "len") rfl)
theorem Tx.b_all (T : Tx K mg) : mg "all" = none := by
  obtain ⟨h, X, G⟩ := T.ex
  exact He.free_ok X G (T.c.d.fact 56 (f := .free "all") rfl)
theorem Tx.b_isinstance (T : Tx K mg) : mg "isinstance" = none := by
  obtain ⟨h, X, G⟩ := T.ex
  exact He.free_ok X G (T.c.d.fact 57 (f := .free "isinstance") rfl)
theorem Tx.b_str (T : Tx K mg) : mg "str" = none := by
  obtain ⟨h, X, G⟩ := T.ex
  exact He.free_ok X G (T.c.d.fact 58 (f := .free "str") rfl)
theorem Tx.b_int (T : Tx K mg) : mg "int" = none := by
  obtain ⟨h, X, G⟩ := T.ex
  exact He.free_ok X G (T.c.d.fact 59 (f := .free "int") rfl)
theorem Tx.b_tuple (T : Tx K mg) : mg "tuple" = none := by
  obtain ⟨h, X, G⟩ := T.ex
  exact He.free_ok X G (T.c.d.fact 60 (f := .free "tuple") rfl)
theorem Tx.b_bool (T : Tx K mg) : mg "bool" = none := by
  obtain ⟨h, X, G⟩ := T.ex
  exact He.free_ok X G (T.c.d.fact 61 (f := .free "bool") rfl)
theorem Tx.b_ord (T : Tx K mg) : mg "ord" = none := by
  obtain ⟨h, X, G⟩ := T.ex
  exact He.free_ok X G (T.c.d.fact 62 (f := .free "ord") rfl)
theorem Tx.b_zip (T : Tx K mg) : mg "zip" = none := by
  obtain ⟨h, X, G⟩ := T.ex
  exact He.free_ok X G (T.c.d.fact 63 (f := .free "zip") rfl)
theorem Tx.b_sorted (T : Tx K mg) : mg "sorted" = none := by
  obtain ⟨h, X, G⟩ := T.ex
  exact He.free_ok X G (T.c.d.fact 64 (f := .free "sorted") rfl)
theorem Tx.b_list (T : Tx K mg) : mg "list" = none := by
  obtain ⟨h, X, G⟩ := T.ex
  exact He.free_ok X G (T.c.d.fact 65 (f := .free "list") rfl)
theorem Tx.b_range (T : Tx K mg) : mg "range" = none := by
  obtain ⟨h, X, G⟩ := T.ex
  exact He.free_ok X G (T.c.d.fact 66 (f := .free "range") rfl)
theorem Tx.b_min (T : Tx K mg) : mg "min" = none := by
  obtain ⟨h, X, G⟩ := T.ex
  exact He.free_ok X G (T.c.d.fact 67 (f := .free "min") rfl)
theorem Tx.b_ValueError (T : Tx K mg) : mg "ValueError" = none := by
  obtain ⟨h, X, G⟩ := T.ex
  exact He.free_ok X G (T.c.d.fact 68 (f := .free "ValueError") rfl)
theorem Tx.s_SMALL (T : Tx K mg) : ∃ t, mg "SMALL" = some (.str "abcdefghijklmnopqrstuvwxyz" t) := by
  obtain ⟨h, X, G⟩ := T.ex
  exact He.str_ok X G (T.c.d.fact 69 (f := .str "SMALL" "abcdefghijklmnopqrstuvwxyz") rfl)
theorem Tx.s_FIGURES (T : Tx K mg) : ∃ t, mg "FIGURES" = some (.str "0123456789" t) := by
  obtain ⟨h, X, G⟩ := T.ex
  exact He.str_ok X G (T.c.d.fact 70 (f := .str "FIGURES" "0123456789") rfl)
theorem Tx.i_MOST_SIGNS (T : Tx K mg) : ∃ t, mg "MOST_SIGNS" = some (.int 40 t) := by
  obtain ⟨h, X, G⟩ := T.ex
  exact He.int_ok X G (T.c.d.fact 71 (f := .int "MOST_SIGNS" 40) rfl)
theorem Tx.i_MOST_LETTERS (T : Tx K mg) : ∃ t, mg "MOST_LETTERS" = some (.int 8 t) := by
  obtain ⟨h, X, G⟩ := T.ex
  exact He.int_ok X G (T.c.d.fact 72 (f := .int "MOST_LETTERS" 8) rfl)
theorem Tx.i_MOST_WORDS (T : Tx K mg) : ∃ t, mg "MOST_WORDS" = some (.int 4 t) := by
  obtain ⟨h, X, G⟩ := T.ex
  exact He.int_ok X G (T.c.d.fact 73 (f := .int "MOST_WORDS" 4) rfl)
theorem Tx.i_MOST_FIGURES (T : Tx K mg) : ∃ t, mg "MOST_FIGURES" = some (.int 3 t) := by
  obtain ⟨h, X, G⟩ := T.ex
  exact He.int_ok X G (T.c.d.fact 74 (f := .int "MOST_FIGURES" 3) rfl)
theorem Tx.c_Road (T : Tx K mg) : Cls K (He.ga K "Road") := He.cls_ok (T.c.d.fact 75 (f := .cls "Road") rfl)
theorem Tx.m_Road (T : Tx K mg) : Mk K (He.ga K "Road") (He.ma K (He.ga K "Road") "__init__") := He.mkr_ok (T.c.d.fact 76 (f := .mkr "Road") rfl)
theorem Tx.c_Wood (T : Tx K mg) : Cls K (He.ga K "Wood") := He.cls_ok (T.c.d.fact 77 (f := .cls "Wood") rfl)
theorem Tx.m_Wood (T : Tx K mg) : Mk K (He.ga K "Wood") (He.ma K (He.ga K "Wood") "__init__") := He.mkr_ok (T.c.d.fact 78 (f := .mkr "Wood") rfl)
theorem Tx.n_here (T : Tx K mg) : NoAttr K (He.ga K "Road") "here" := He.noat_ok (T.c.d.fact 79 (f := .noat "Road" "here") rfl)
theorem Tx.n_there (T : Tx K mg) : NoAttr K (He.ga K "Road") "there" := He.noat_ok (T.c.d.fact 80 (f := .noat "Road" "there") rfl)
theorem Tx.n_word (T : Tx K mg) : NoAttr K (He.ga K "Road") "word" := He.noat_ok (T.c.d.fact 81 (f := .noat "Road" "word") rfl)
theorem Tx.n_over (T : Tx K mg) : NoAttr K (He.ga K "Road") "over" := He.noat_ok (T.c.d.fact 82 (f := .noat "Road" "over") rfl)
theorem Tx.n_kept (T : Tx K mg) : NoAttr K (He.ga K "Wood") "kept" := He.noat_ok (T.c.d.fact 83 (f := .noat "Wood" "kept") rfl)
theorem Tx.n_known (T : Tx K mg) : NoAttr K (He.ga K "Wood") "known" := He.noat_ok (T.c.d.fact 84 (f := .noat "Wood" "known") rfl)
theorem Tx.n_coming (T : Tx K mg) : NoAttr K (He.ga K "Wood") "coming" := He.noat_ok (T.c.d.fact 85 (f := .noat "Wood" "coming") rfl)
theorem Tx.n_called (T : Tx K mg) : NoAttr K (He.ga K "Wood") "called" := He.noat_ok (T.c.d.fact 86 (f := .noat "Wood" "called") rfl)
theorem Tx.e_Ended (T : Tx K mg) : PySem.W.excIn K (He.ga K "Ended") He.veBase "ValueError.__new__" = true ∧ PySem.W.keepIn K (.ref (He.ga K "Ended")) = true ∧ PySem.W.subIn K (.ref (He.ga K "Ended")) (.type "BaseException") = some true ∧ PySem.W.typeIn K (.ref (He.ga K "Ended")) = some (.type "type") := He.exc_ok (T.c.d.fact 102 (f := .exc "Ended") rfl)
theorem Tx.x_NoName_NoName (T : Tx K mg) : PySem.W.exmOne K (.ref (He.ga K "NoName")) (.ref (He.ga K "NoName")) = some true := He.exm_ok (T.c.d.fact 103 (f := .exm "NoName" "NoName" true) rfl)
theorem Tx.x_Ended_NoName (T : Tx K mg) : PySem.W.exmOne K (.ref (He.ga K "Ended")) (.ref (He.ga K "NoName")) = some false := He.exm_ok (T.c.d.fact 104 (f := .exm "Ended" "NoName" false) rfl)
theorem Tx.x_Ended_Ended (T : Tx K mg) : PySem.W.exmOne K (.ref (He.ga K "Ended")) (.ref (He.ga K "Ended")) = some true := He.exm_ok (T.c.d.fact 105 (f := .exm "Ended" "Ended" true) rfl)
theorem Tx.ex1 (T : Tx K mg) : OexC K (He.ga K "NoName") ∧ XfC K (He.ga K "NoName") ∧ PySem.W.findIn K (.ref (He.ga K "NoName")) "name" = some none ∧
    PySem.W.findIn K (.ref (He.ga K "NoName")) "__init__" = some (some (.ref (He.ma K (He.ga K "NoName") "__init__"))) ∧ PySem.W.typeIn K (.ref (He.ma K (He.ga K "NoName") "__init__")) = some (.type "function") ∧ WinC K (He.ga K "WoodError") := by
  obtain ⟨h1, h⟩ := He.ba (show exB K = true from T.c.x)
  obtain ⟨h2, h⟩ := He.ba h
  obtain ⟨h3, h⟩ := He.ba h
  obtain ⟨h4, h⟩ := He.ba h
  obtain ⟨h5, h6⟩ := He.ba h
  refine ⟨oexB_ok h1, xfB_ok h2, He.eqO_ok h3, He.eqO_ok h4, of_decide_eq_true h5, ?_⟩
  obtain ⟨k1, k⟩ := He.ba h6
  obtain ⟨k2, k3⟩ := He.ba k
  refine ⟨k1, He.eqO_ok k2, ?_⟩
  split at k3
  · rename_i b e
    rw [e, of_decide_eq_true k3]
  · cases k3
theorem Tx.fNoMakeInit (T : Tx K mg) : FunD K "__init__" "NoMake.__init__" (defArgs sNoMakeInit) (defBody sNoMakeInit) (defScope sNoMakeInit) [] [] (He.ma K (He.ga K "NoMake") "__init__") (fdA K ("NoMake", some "__init__")) := by
  obtain ⟨fd, F⟩ := T.c.d.def_ 0 (d := dNoMakeInit) rfl
  exact fdA_of (p := ("NoMake", some "__init__")) F
theorem Tx.bNoMakeInit (T : Tx K mg) : Binds K (fdA K ("NoMake", some "__init__")) ["self", "number"] [] := T.fNoMakeInit.bindsN fun _ _ _ _ _ _ us hl => match us, hl with | [_, _], _ => rfl
theorem Tx.fNoNameInit (T : Tx K mg) : FunD K "__init__" "NoName.__init__" (defArgs sNoNameInit) (defBody sNoNameInit) (defScope sNoNameInit) [] [] (He.ma K (He.ga K "NoName") "__init__") (fdA K ("NoName", some "__init__")) := by
  obtain ⟨fd, F⟩ := T.c.d.def_ 1 (d := dNoNameInit) rfl
  exact fdA_of (p := ("NoName", some "__init__")) F
theorem Tx.bNoNameInit (T : Tx K mg) : Binds K (fdA K ("NoName", some "__init__")) ["self", "name"] [] := T.fNoNameInit.bindsN fun _ _ _ _ _ _ us hl => match us, hl with | [_, _], _ => rfl
theorem Tx.fLineOf (T : Tx K mg) : FunD K "line_of" "line_of" (defArgs sLineOf) (defBody sLineOf) (defScope sLineOf) [] [] (He.ga K "line_of") (fdA K ("line_of", none)) := by
  obtain ⟨fd, F⟩ := T.c.d.def_ 2 (d := dLineOf) rfl
  exact fdA_of (p := ("line_of", none)) F
theorem Tx.bLineOf (T : Tx K mg) : Binds K (fdA K ("line_of", none)) ["wood", "number"] [] := T.fLineOf.bindsN fun _ _ _ _ _ _ us hl => match us, hl with | [_, _], _ => rfl
theorem Tx.dLineOf (T : Tx K mg) : DefOk K mg "line_of" ["wood", "number"] := ⟨T.g_line_of, T.fLineOf.kp, T.bLineOf⟩
theorem Tx.fAlikeMakes (T : Tx K mg) : FunD K "alike_makes" "alike_makes" (defArgs sAlikeMakes) (defBody sAlikeMakes) (defScope sAlikeMakes) [] [] (He.ga K "alike_makes") (fdA K ("alike_makes", none)) := by
  obtain ⟨fd, F⟩ := T.c.d.def_ 3 (d := dAlikeMakes) rfl
  exact fdA_of (p := ("alike_makes", none)) F
theorem Tx.bAlikeMakes (T : Tx K mg) : Binds K (fdA K ("alike_makes", none)) ["wood", "other"] [] := T.fAlikeMakes.bindsN fun _ _ _ _ _ _ us hl => match us, hl with | [_, _], _ => rfl
theorem Tx.dAlikeMakes (T : Tx K mg) : DefOk K mg "alike_makes" ["wood", "other"] := ⟨T.g_alike_makes, T.fAlikeMakes.kp, T.bAlikeMakes⟩
theorem Tx.fLacking (T : Tx K mg) : FunD K "lacking" "lacking" (defArgs sLacking) (defBody sLacking) (defScope sLacking) [] [] (He.ga K "lacking") (fdA K ("lacking", none)) := by
  obtain ⟨fd, F⟩ := T.c.d.def_ 4 (d := dLacking) rfl
  exact fdA_of (p := ("lacking", none)) F
theorem Tx.bLacking (T : Tx K mg) : Binds K (fdA K ("lacking", none)) ["wood", "other", "name"] [] := T.fLacking.bindsN fun _ _ _ _ _ _ us hl => match us, hl with | [_, _, _], _ => rfl
theorem Tx.dLacking (T : Tx K mg) : DefOk K mg "lacking" ["wood", "other", "name"] := ⟨T.g_lacking, T.fLacking.kp, T.bLacking⟩
theorem Tx.fRoadInit (T : Tx K mg) : FunD K "__init__" "Road.__init__" (defArgs sRoadInit) (defBody sRoadInit) (defScope sRoadInit) [] [] (He.ma K (He.ga K "Road") "__init__") (fdA K ("Road", some "__init__")) := by
  obtain ⟨fd, F⟩ := T.c.d.def_ 5 (d := dRoadInit) rfl
  exact fdA_of (p := ("Road", some "__init__")) F
theorem Tx.bRoadInit (T : Tx K mg) : Binds K (fdA K ("Road", some "__init__")) ["self", "wood", "other", "name"] [] := T.fRoadInit.bindsN fun _ _ _ _ _ _ us hl => match us, hl with | [_, _, _, _], _ => rfl
theorem Tx.dRoadInit (T : Tx K mg) : MkOk K mg "Road" ["self", "wood", "other", "name"] := ⟨T.g_Road, T.m_Road, T.bRoadInit⟩
theorem Tx.fRoadStep (T : Tx K mg) : FunD K "step" "Road.step" (defArgs sRoadStep) (defBody sRoadStep) (defScope sRoadStep) [] [] (He.ma K (He.ga K "Road") "step") (fdA K ("Road", some "step")) := by
  obtain ⟨fd, F⟩ := T.c.d.def_ 6 (d := dRoadStep) rfl
  exact fdA_of (p := ("Road", some "step")) F
theorem Tx.bRoadStep (T : Tx K mg) : Binds K (fdA K ("Road", some "step")) ["self"] [] := T.fRoadStep.bindsN fun _ _ _ _ _ _ us hl => match us, hl with | [_], _ => rfl
theorem Tx.dRoadStep (T : Tx K mg) : MetOk K "Road" "step" ["self"] := ⟨T.c_Road, He.meth_ok (T.c.d.fact 87 (f := .meth "Road" "step") rfl), T.bRoadStep⟩
theorem Tx.fRoadHasEnded (T : Tx K mg) : FunD K "has_ended" "Road.has_ended" (defArgs sRoadHasEnded) (defBody sRoadHasEnded) (defScope sRoadHasEnded) [] [] (He.ma K (He.ga K "Road") "has_ended") (fdA K ("Road", some "has_ended")) := by
  obtain ⟨fd, F⟩ := T.c.d.def_ 7 (d := dRoadHasEnded) rfl
  exact fdA_of (p := ("Road", some "has_ended")) F
theorem Tx.bRoadHasEnded (T : Tx K mg) : Binds K (fdA K ("Road", some "has_ended")) ["self"] [] := T.fRoadHasEnded.bindsN fun _ _ _ _ _ _ us hl => match us, hl with | [_], _ => rfl
theorem Tx.dRoadHasEnded (T : Tx K mg) : MetOk K "Road" "has_ended" ["self"] := ⟨T.c_Road, He.meth_ok (T.c.d.fact 88 (f := .meth "Road" "has_ended") rfl), T.bRoadHasEnded⟩
theorem Tx.fComeTo (T : Tx K mg) : FunD K "come_to" "come_to" (defArgs sComeTo) (defBody sComeTo) (defScope sComeTo) [] [] (He.ga K "come_to") (fdA K ("come_to", none)) := by
  obtain ⟨fd, F⟩ := T.c.d.def_ 8 (d := dComeTo) rfl
  exact fdA_of (p := ("come_to", none)) F
theorem Tx.bComeTo (T : Tx K mg) : Binds K (fdA K ("come_to", none)) ["wood", "held"] [] := T.fComeTo.bindsN fun _ _ _ _ _ _ us hl => match us, hl with | [_, _], _ => rfl
theorem Tx.dComeTo (T : Tx K mg) : DefOk K mg "come_to" ["wood", "held"] := ⟨T.g_come_to, T.fComeTo.kp, T.bComeTo⟩
theorem Tx.fWrittenText (T : Tx K mg) : FunD K "written_text" "written_text" (defArgs sWrittenText) (defBody sWrittenText) (defScope sWrittenText) [] [] (He.ga K "written_text") (fdA K ("written_text", none)) := by
  obtain ⟨fd, F⟩ := T.c.d.def_ 9 (d := dWrittenText) rfl
  exact fdA_of (p := ("written_text", none)) F
theorem Tx.bWrittenText (T : Tx K mg) : Binds K (fdA K ("written_text", none)) ["text"] [] := T.fWrittenText.bindsN fun _ _ _ _ _ _ us hl => match us, hl with | [_], _ => rfl
theorem Tx.dWrittenText (T : Tx K mg) : DefOk K mg "written_text" ["text"] := ⟨T.g_written_text, T.fWrittenText.kp, T.bWrittenText⟩
theorem Tx.fWrittenClash (T : Tx K mg) : FunD K "written_clash" "written_clash" (defArgs sWrittenClash) (defBody sWrittenClash) (defScope sWrittenClash) [] [] (He.ga K "written_clash") (fdA K ("written_clash", none)) := by
  obtain ⟨fd, F⟩ := T.c.d.def_ 10 (d := dWrittenClash) rfl
  exact fdA_of (p := ("written_clash", none)) F
theorem Tx.bWrittenClash (T : Tx K mg) : Binds K (fdA K ("written_clash", none)) ["base", "parts"] [] := T.fWrittenClash.bindsN fun _ _ _ _ _ _ us hl => match us, hl with | [_, _], _ => rfl
theorem Tx.dWrittenClash (T : Tx K mg) : DefOk K mg "written_clash" ["base", "parts"] := ⟨T.g_written_clash, T.fWrittenClash.kp, T.bWrittenClash⟩
theorem Tx.fWrittenWhere (T : Tx K mg) : FunD K "written_where" "written_where" (defArgs sWrittenWhere) (defBody sWrittenWhere) (defScope sWrittenWhere) [] [] (He.ga K "written_where") (fdA K ("written_where", none)) := by
  obtain ⟨fd, F⟩ := T.c.d.def_ 11 (d := dWrittenWhere) rfl
  exact fdA_of (p := ("written_where", none)) F
theorem Tx.bWrittenWhere (T : Tx K mg) : Binds K (fdA K ("written_where", none)) ["where"] [] := T.fWrittenWhere.bindsN fun _ _ _ _ _ _ us hl => match us, hl with | [_], _ => rfl
theorem Tx.dWrittenWhere (T : Tx K mg) : DefOk K mg "written_where" ["where"] := ⟨T.g_written_where, T.fWrittenWhere.kp, T.bWrittenWhere⟩
theorem Tx.fWrittenItem (T : Tx K mg) : FunD K "written_item" "written_item" (defArgs sWrittenItem) (defBody sWrittenItem) (defScope sWrittenItem) [] [] (He.ga K "written_item") (fdA K ("written_item", none)) := by
  obtain ⟨fd, F⟩ := T.c.d.def_ 12 (d := dWrittenItem) rfl
  exact fdA_of (p := ("written_item", none)) F
theorem Tx.bWrittenItem (T : Tx K mg) : Binds K (fdA K ("written_item", none)) ["item"] [] := T.fWrittenItem.bindsN fun _ _ _ _ _ _ us hl => match us, hl with | [_], _ => rfl
theorem Tx.dWrittenItem (T : Tx K mg) : DefOk K mg "written_item" ["item"] := ⟨T.g_written_item, T.fWrittenItem.kp, T.bWrittenItem⟩
theorem Tx.fWrittenItems (T : Tx K mg) : FunD K "written_items" "written_items" (defArgs sWrittenItems) (defBody sWrittenItems) (defScope sWrittenItems) [] [] (He.ga K "written_items") (fdA K ("written_items", none)) := by
  obtain ⟨fd, F⟩ := T.c.d.def_ 13 (d := dWrittenItems) rfl
  exact fdA_of (p := ("written_items", none)) F
theorem Tx.bWrittenItems (T : Tx K mg) : Binds K (fdA K ("written_items", none)) ["items"] [] := T.fWrittenItems.bindsN fun _ _ _ _ _ _ us hl => match us, hl with | [_], _ => rfl
theorem Tx.dWrittenItems (T : Tx K mg) : DefOk K mg "written_items" ["items"] := ⟨T.g_written_items, T.fWrittenItems.kp, T.bWrittenItems⟩
theorem Tx.fIsTextOf (T : Tx K mg) : FunD K "is_text_of" "is_text_of" (defArgs sIsTextOf) (defBody sIsTextOf) (defScope sIsTextOf) [] [] (He.ga K "is_text_of") (fdA K ("is_text_of", none)) := by
  obtain ⟨fd, F⟩ := T.c.d.def_ 14 (d := dIsTextOf) rfl
  exact fdA_of (p := ("is_text_of", none)) F
theorem Tx.bIsTextOf (T : Tx K mg) : Binds K (fdA K ("is_text_of", none)) ["thing", "signs"] [] := T.fIsTextOf.bindsN fun _ _ _ _ _ _ us hl => match us, hl with | [_, _], _ => rfl
theorem Tx.dIsTextOf (T : Tx K mg) : DefOk K mg "is_text_of" ["thing", "signs"] := ⟨T.g_is_text_of, T.fIsTextOf.kp, T.bIsTextOf⟩
theorem Tx.fIsLine (T : Tx K mg) : FunD K "is_line" "is_line" (defArgs sIsLine) (defBody sIsLine) (defScope sIsLine) [] [] (He.ga K "is_line") (fdA K ("is_line", none)) := by
  obtain ⟨fd, F⟩ := T.c.d.def_ 15 (d := dIsLine) rfl
  exact fdA_of (p := ("is_line", none)) F
theorem Tx.bIsLine (T : Tx K mg) : Binds K (fdA K ("is_line", none)) ["thing"] [] := T.fIsLine.bindsN fun _ _ _ _ _ _ us hl => match us, hl with | [_], _ => rfl
theorem Tx.dIsLine (T : Tx K mg) : DefOk K mg "is_line" ["thing"] := ⟨T.g_is_line, T.fIsLine.kp, T.bIsLine⟩
theorem Tx.fIsWord (T : Tx K mg) : FunD K "is_word" "is_word" (defArgs sIsWord) (defBody sIsWord) (defScope sIsWord) [] [] (He.ga K "is_word") (fdA K ("is_word", none)) := by
  obtain ⟨fd, F⟩ := T.c.d.def_ 16 (d := dIsWord) rfl
  exact fdA_of (p := ("is_word", none)) F
theorem Tx.bIsWord (T : Tx K mg) : Binds K (fdA K ("is_word", none)) ["thing"] [] := T.fIsWord.bindsN fun _ _ _ _ _ _ us hl => match us, hl with | [_], _ => rfl
theorem Tx.dIsWord (T : Tx K mg) : DefOk K mg "is_word" ["thing"] := ⟨T.g_is_word, T.fIsWord.kp, T.bIsWord⟩
theorem Tx.fIsPath (T : Tx K mg) : FunD K "is_path" "is_path" (defArgs sIsPath) (defBody sIsPath) (defScope sIsPath) [] [] (He.ga K "is_path") (fdA K ("is_path", none)) := by
  obtain ⟨fd, F⟩ := T.c.d.def_ 17 (d := dIsPath) rfl
  exact fdA_of (p := ("is_path", none)) F
theorem Tx.bIsPath (T : Tx K mg) : Binds K (fdA K ("is_path", none)) ["thing"] [] := T.fIsPath.bindsN fun _ _ _ _ _ _ us hl => match us, hl with | [_], _ => rfl
theorem Tx.dIsPath (T : Tx K mg) : DefOk K mg "is_path" ["thing"] := ⟨T.g_is_path, T.fIsPath.kp, T.bIsPath⟩
theorem Tx.fIsRoot (T : Tx K mg) : FunD K "is_root" "is_root" (defArgs sIsRoot) (defBody sIsRoot) (defScope sIsRoot) [] [] (He.ga K "is_root") (fdA K ("is_root", none)) := by
  obtain ⟨fd, F⟩ := T.c.d.def_ 18 (d := dIsRoot) rfl
  exact fdA_of (p := ("is_root", none)) F
theorem Tx.bIsRoot (T : Tx K mg) : Binds K (fdA K ("is_root", none)) ["thing"] [] := T.fIsRoot.bindsN fun _ _ _ _ _ _ us hl => match us, hl with | [_], _ => rfl
theorem Tx.dIsRoot (T : Tx K mg) : DefOk K mg "is_root" ["thing"] := ⟨T.g_is_root, T.fIsRoot.kp, T.bIsRoot⟩
theorem Tx.fIsClash (T : Tx K mg) : FunD K "is_clash" "is_clash" (defArgs sIsClash) (defBody sIsClash) (defScope sIsClash) [] [] (He.ga K "is_clash") (fdA K ("is_clash", none)) := by
  obtain ⟨fd, F⟩ := T.c.d.def_ 19 (d := dIsClash) rfl
  exact fdA_of (p := ("is_clash", none)) F
theorem Tx.bIsClash (T : Tx K mg) : Binds K (fdA K ("is_clash", none)) ["thing"] [] := T.fIsClash.bindsN fun _ _ _ _ _ _ us hl => match us, hl with | [_], _ => rfl
theorem Tx.dIsClash (T : Tx K mg) : DefOk K mg "is_clash" ["thing"] := ⟨T.g_is_clash, T.fIsClash.kp, T.bIsClash⟩
theorem Tx.fIsItem (T : Tx K mg) : FunD K "is_item" "is_item" (defArgs sIsItem) (defBody sIsItem) (defScope sIsItem) [] [] (He.ga K "is_item") (fdA K ("is_item", none)) := by
  obtain ⟨fd, F⟩ := T.c.d.def_ 20 (d := dIsItem) rfl
  exact fdA_of (p := ("is_item", none)) F
theorem Tx.bIsItem (T : Tx K mg) : Binds K (fdA K ("is_item", none)) ["thing"] [] := T.fIsItem.bindsN fun _ _ _ _ _ _ us hl => match us, hl with | [_], _ => rfl
theorem Tx.dIsItem (T : Tx K mg) : DefOk K mg "is_item" ["thing"] := ⟨T.g_is_item, T.fIsItem.kp, T.bIsItem⟩
theorem Tx.fIsItems (T : Tx K mg) : FunD K "is_items" "is_items" (defArgs sIsItems) (defBody sIsItems) (defScope sIsItems) [] [] (He.ga K "is_items") (fdA K ("is_items", none)) := by
  obtain ⟨fd, F⟩ := T.c.d.def_ 21 (d := dIsItems) rfl
  exact fdA_of (p := ("is_items", none)) F
theorem Tx.bIsItems (T : Tx K mg) : Binds K (fdA K ("is_items", none)) ["thing"] [] := T.fIsItems.bindsN fun _ _ _ _ _ _ us hl => match us, hl with | [_], _ => rfl
theorem Tx.dIsItems (T : Tx K mg) : DefOk K mg "is_items" ["thing"] := ⟨T.g_is_items, T.fIsItems.kp, T.bIsItems⟩
theorem Tx.fIsPlace (T : Tx K mg) : FunD K "is_place" "is_place" (defArgs sIsPlace) (defBody sIsPlace) (defScope sIsPlace) [] [] (He.ga K "is_place") (fdA K ("is_place", none)) := by
  obtain ⟨fd, F⟩ := T.c.d.def_ 22 (d := dIsPlace) rfl
  exact fdA_of (p := ("is_place", none)) F
theorem Tx.bIsPlace (T : Tx K mg) : Binds K (fdA K ("is_place", none)) ["thing"] [] := T.fIsPlace.bindsN fun _ _ _ _ _ _ us hl => match us, hl with | [_], _ => rfl
theorem Tx.dIsPlace (T : Tx K mg) : DefOk K mg "is_place" ["thing"] := ⟨T.g_is_place, T.fIsPlace.kp, T.bIsPlace⟩
theorem Tx.fIsWhere (T : Tx K mg) : FunD K "is_where" "is_where" (defArgs sIsWhere) (defBody sIsWhere) (defScope sIsWhere) [] [] (He.ga K "is_where") (fdA K ("is_where", none)) := by
  obtain ⟨fd, F⟩ := T.c.d.def_ 23 (d := dIsWhere) rfl
  exact fdA_of (p := ("is_where", none)) F
theorem Tx.bIsWhere (T : Tx K mg) : Binds K (fdA K ("is_where", none)) ["thing"] [] := T.fIsWhere.bindsN fun _ _ _ _ _ _ us hl => match us, hl with | [_], _ => rfl
theorem Tx.dIsWhere (T : Tx K mg) : DefOk K mg "is_where" ["thing"] := ⟨T.g_is_where, T.fIsWhere.kp, T.bIsWhere⟩
theorem Tx.fIsRow (T : Tx K mg) : FunD K "is_row" "is_row" (defArgs sIsRow) (defBody sIsRow) (defScope sIsRow) [] [] (He.ga K "is_row") (fdA K ("is_row", none)) := by
  obtain ⟨fd, F⟩ := T.c.d.def_ 24 (d := dIsRow) rfl
  exact fdA_of (p := ("is_row", none)) F
theorem Tx.bIsRow (T : Tx K mg) : Binds K (fdA K ("is_row", none)) ["thing"] [] := T.fIsRow.bindsN fun _ _ _ _ _ _ us hl => match us, hl with | [_], _ => rfl
theorem Tx.dIsRow (T : Tx K mg) : DefOk K mg "is_row" ["thing"] := ⟨T.g_is_row, T.fIsRow.kp, T.bIsRow⟩
theorem Tx.fIsStand (T : Tx K mg) : FunD K "is_stand" "is_stand" (defArgs sIsStand) (defBody sIsStand) (defScope sIsStand) [] [] (He.ga K "is_stand") (fdA K ("is_stand", none)) := by
  obtain ⟨fd, F⟩ := T.c.d.def_ 25 (d := dIsStand) rfl
  exact fdA_of (p := ("is_stand", none)) F
theorem Tx.bIsStand (T : Tx K mg) : Binds K (fdA K ("is_stand", none)) ["thing"] [] := T.fIsStand.bindsN fun _ _ _ _ _ _ us hl => match us, hl with | [_], _ => rfl
theorem Tx.dIsStand (T : Tx K mg) : DefOk K mg "is_stand" ["thing"] := ⟨T.g_is_stand, T.fIsStand.kp, T.bIsStand⟩
theorem Tx.fWoodInit (T : Tx K mg) : FunD K "__init__" "Wood.__init__" (defArgs sWoodInit) (defBody sWoodInit) (defScope sWoodInit) [] [] (He.ma K (He.ga K "Wood") "__init__") (fdA K ("Wood", some "__init__")) := by
  obtain ⟨fd, F⟩ := T.c.d.def_ 26 (d := dWoodInit) rfl
  exact fdA_of (p := ("Wood", some "__init__")) F
theorem Tx.bWoodInit (T : Tx K mg) : Binds K (fdA K ("Wood", some "__init__")) ["self"] [] := T.fWoodInit.bindsN fun _ _ _ _ _ _ us hl => match us, hl with | [_], _ => rfl
theorem Tx.dWoodInit (T : Tx K mg) : MkOk K mg "Wood" ["self"] := ⟨T.g_Wood, T.m_Wood, T.bWoodInit⟩
theorem Tx.fWoodIsThere (T : Tx K mg) : FunD K "is_there" "Wood.is_there" (defArgs sWoodIsThere) (defBody sWoodIsThere) (defScope sWoodIsThere) [] [] (He.ma K (He.ga K "Wood") "is_there") (fdA K ("Wood", some "is_there")) := by
  obtain ⟨fd, F⟩ := T.c.d.def_ 27 (d := dWoodIsThere) rfl
  exact fdA_of (p := ("Wood", some "is_there")) F
theorem Tx.bWoodIsThere (T : Tx K mg) : Binds K (fdA K ("Wood", some "is_there")) ["self", "number"] [] := T.fWoodIsThere.bindsN fun _ _ _ _ _ _ us hl => match us, hl with | [_, _], _ => rfl
theorem Tx.dWoodIsThere (T : Tx K mg) : MetOk K "Wood" "is_there" ["self", "number"] := ⟨T.c_Wood, He.meth_ok (T.c.d.fact 89 (f := .meth "Wood" "is_there") rfl), T.bWoodIsThere⟩
theorem Tx.fWoodMakeAt (T : Tx K mg) : FunD K "make_at" "Wood.make_at" (defArgs sWoodMakeAt) (defBody sWoodMakeAt) (defScope sWoodMakeAt) [] [] (He.ma K (He.ga K "Wood") "make_at") (fdA K ("Wood", some "make_at")) := by
  obtain ⟨fd, F⟩ := T.c.d.def_ 28 (d := dWoodMakeAt) rfl
  exact fdA_of (p := ("Wood", some "make_at")) F
theorem Tx.bWoodMakeAt (T : Tx K mg) : Binds K (fdA K ("Wood", some "make_at")) ["self", "number"] [] := T.fWoodMakeAt.bindsN fun _ _ _ _ _ _ us hl => match us, hl with | [_, _], _ => rfl
theorem Tx.dWoodMakeAt (T : Tx K mg) : MetOk K "Wood" "make_at" ["self", "number"] := ⟨T.c_Wood, He.meth_ok (T.c.d.fact 90 (f := .meth "Wood" "make_at") rfl), T.bWoodMakeAt⟩
theorem Tx.fWoodPut (T : Tx K mg) : FunD K "put" "Wood.put" (defArgs sWoodPut) (defBody sWoodPut) (defScope sWoodPut) [] [] (He.ma K (He.ga K "Wood") "put") (fdA K ("Wood", some "put")) := by
  obtain ⟨fd, F⟩ := T.c.d.def_ 29 (d := dWoodPut) rfl
  exact fdA_of (p := ("Wood", some "put")) F
theorem Tx.bWoodPut (T : Tx K mg) : Binds K (fdA K ("Wood", some "put")) ["self", "stand", "elders", "words"] [] := T.fWoodPut.bindsN fun _ _ _ _ _ _ us hl => match us, hl with | [_, _, _, _], _ => rfl
theorem Tx.dWoodPut (T : Tx K mg) : MetOk K "Wood" "put" ["self", "stand", "elders", "words"] := ⟨T.c_Wood, He.meth_ok (T.c.d.fact 91 (f := .meth "Wood" "put") rfl), T.bWoodPut⟩
theorem Tx.fWoodStandOf (T : Tx K mg) : FunD K "stand_of" "Wood.stand_of" (defArgs sWoodStandOf) (defBody sWoodStandOf) (defScope sWoodStandOf) [] [] (He.ma K (He.ga K "Wood") "stand_of") (fdA K ("Wood", some "stand_of")) := by
  obtain ⟨fd, F⟩ := T.c.d.def_ 30 (d := dWoodStandOf) rfl
  exact fdA_of (p := ("Wood", some "stand_of")) F
theorem Tx.bWoodStandOf (T : Tx K mg) : Binds K (fdA K ("Wood", some "stand_of")) ["self", "number"] [] := T.fWoodStandOf.bindsN fun _ _ _ _ _ _ us hl => match us, hl with | [_, _], _ => rfl
theorem Tx.dWoodStandOf (T : Tx K mg) : MetOk K "Wood" "stand_of" ["self", "number"] := ⟨T.c_Wood, He.meth_ok (T.c.d.fact 92 (f := .meth "Wood" "stand_of") rfl), T.bWoodStandOf⟩
theorem Tx.fWoodEldersOf (T : Tx K mg) : FunD K "elders_of" "Wood.elders_of" (defArgs sWoodEldersOf) (defBody sWoodEldersOf) (defScope sWoodEldersOf) [] [] (He.ma K (He.ga K "Wood") "elders_of") (fdA K ("Wood", some "elders_of")) := by
  obtain ⟨fd, F⟩ := T.c.d.def_ 31 (d := dWoodEldersOf) rfl
  exact fdA_of (p := ("Wood", some "elders_of")) F
theorem Tx.bWoodEldersOf (T : Tx K mg) : Binds K (fdA K ("Wood", some "elders_of")) ["self", "number"] [] := T.fWoodEldersOf.bindsN fun _ _ _ _ _ _ us hl => match us, hl with | [_, _], _ => rfl
theorem Tx.dWoodEldersOf (T : Tx K mg) : MetOk K "Wood" "elders_of" ["self", "number"] := ⟨T.c_Wood, He.meth_ok (T.c.d.fact 93 (f := .meth "Wood" "elders_of") rfl), T.bWoodEldersOf⟩
theorem Tx.fWoodWordsOf (T : Tx K mg) : FunD K "words_of" "Wood.words_of" (defArgs sWoodWordsOf) (defBody sWoodWordsOf) (defScope sWoodWordsOf) [] [] (He.ma K (He.ga K "Wood") "words_of") (fdA K ("Wood", some "words_of")) := by
  obtain ⟨fd, F⟩ := T.c.d.def_ 32 (d := dWoodWordsOf) rfl
  exact fdA_of (p := ("Wood", some "words_of")) F
theorem Tx.bWoodWordsOf (T : Tx K mg) : Binds K (fdA K ("Wood", some "words_of")) ["self", "number"] [] := T.fWoodWordsOf.bindsN fun _ _ _ _ _ _ us hl => match us, hl with | [_, _], _ => rfl
theorem Tx.dWoodWordsOf (T : Tx K mg) : MetOk K "Wood" "words_of" ["self", "number"] := ⟨T.c_Wood, He.meth_ok (T.c.d.fact 94 (f := .meth "Wood" "words_of") rfl), T.bWoodWordsOf⟩
theorem Tx.fWoodMakes (T : Tx K mg) : FunD K "makes" "Wood.makes" (defArgs sWoodMakes) (defBody sWoodMakes) (defScope sWoodMakes) [] [] (He.ma K (He.ga K "Wood") "makes") (fdA K ("Wood", some "makes")) := by
  obtain ⟨fd, F⟩ := T.c.d.def_ 33 (d := dWoodMakes) rfl
  exact fdA_of (p := ("Wood", some "makes")) F
theorem Tx.bWoodMakes (T : Tx K mg) : Binds K (fdA K ("Wood", some "makes")) ["self"] [] := T.fWoodMakes.bindsN fun _ _ _ _ _ _ us hl => match us, hl with | [_], _ => rfl
theorem Tx.dWoodMakes (T : Tx K mg) : MetOk K "Wood" "makes" ["self"] := ⟨T.c_Wood, He.meth_ok (T.c.d.fact 95 (f := .meth "Wood" "makes") rfl), T.bWoodMakes⟩
theorem Tx.fWoodNumberOf (T : Tx K mg) : FunD K "number_of" "Wood.number_of" (defArgs sWoodNumberOf) (defBody sWoodNumberOf) (defScope sWoodNumberOf) [] [] (He.ma K (He.ga K "Wood") "number_of") (fdA K ("Wood", some "number_of")) := by
  obtain ⟨fd, F⟩ := T.c.d.def_ 34 (d := dWoodNumberOf) rfl
  exact fdA_of (p := ("Wood", some "number_of")) F
theorem Tx.bWoodNumberOf (T : Tx K mg) : Binds K (fdA K ("Wood", some "number_of")) ["self", "stand", "elders", "words"] [] := T.fWoodNumberOf.bindsN fun _ _ _ _ _ _ us hl => match us, hl with | [_, _, _, _], _ => rfl
theorem Tx.dWoodNumberOf (T : Tx K mg) : MetOk K "Wood" "number_of" ["self", "stand", "elders", "words"] := ⟨T.c_Wood, He.meth_ok (T.c.d.fact 96 (f := .meth "Wood" "number_of") rfl), T.bWoodNumberOf⟩
theorem Tx.fWoodSetName (T : Tx K mg) : FunD K "set_name" "Wood.set_name" (defArgs sWoodSetName) (defBody sWoodSetName) (defScope sWoodSetName) [] [] (He.ma K (He.ga K "Wood") "set_name") (fdA K ("Wood", some "set_name")) := by
  obtain ⟨fd, F⟩ := T.c.d.def_ 35 (d := dWoodSetName) rfl
  exact fdA_of (p := ("Wood", some "set_name")) F
theorem Tx.bWoodSetName (T : Tx K mg) : Binds K (fdA K ("Wood", some "set_name")) ["self", "name", "number"] [] := T.fWoodSetName.bindsN fun _ _ _ _ _ _ us hl => match us, hl with | [_, _, _], _ => rfl
theorem Tx.dWoodSetName (T : Tx K mg) : MetOk K "Wood" "set_name" ["self", "name", "number"] := ⟨T.c_Wood, He.meth_ok (T.c.d.fact 97 (f := .meth "Wood" "set_name") rfl), T.bWoodSetName⟩
theorem Tx.fWoodNamed (T : Tx K mg) : FunD K "named" "Wood.named" (defArgs sWoodNamed) (defBody sWoodNamed) (defScope sWoodNamed) [] [] (He.ma K (He.ga K "Wood") "named") (fdA K ("Wood", some "named")) := by
  obtain ⟨fd, F⟩ := T.c.d.def_ 36 (d := dWoodNamed) rfl
  exact fdA_of (p := ("Wood", some "named")) F
theorem Tx.bWoodNamed (T : Tx K mg) : Binds K (fdA K ("Wood", some "named")) ["self", "name"] [] := T.fWoodNamed.bindsN fun _ _ _ _ _ _ us hl => match us, hl with | [_, _], _ => rfl
theorem Tx.dWoodNamed (T : Tx K mg) : MetOk K "Wood" "named" ["self", "name"] := ⟨T.c_Wood, He.meth_ok (T.c.d.fact 98 (f := .meth "Wood" "named") rfl), T.bWoodNamed⟩
theorem Tx.fWoodDropName (T : Tx K mg) : FunD K "drop_name" "Wood.drop_name" (defArgs sWoodDropName) (defBody sWoodDropName) (defScope sWoodDropName) [] [] (He.ma K (He.ga K "Wood") "drop_name") (fdA K ("Wood", some "drop_name")) := by
  obtain ⟨fd, F⟩ := T.c.d.def_ 37 (d := dWoodDropName) rfl
  exact fdA_of (p := ("Wood", some "drop_name")) F
theorem Tx.bWoodDropName (T : Tx K mg) : Binds K (fdA K ("Wood", some "drop_name")) ["self", "name"] [] := T.fWoodDropName.bindsN fun _ _ _ _ _ _ us hl => match us, hl with | [_, _], _ => rfl
theorem Tx.dWoodDropName (T : Tx K mg) : MetOk K "Wood" "drop_name" ["self", "name"] := ⟨T.c_Wood, He.meth_ok (T.c.d.fact 99 (f := .meth "Wood" "drop_name") rfl), T.bWoodDropName⟩
theorem Tx.fWoodNames (T : Tx K mg) : FunD K "names" "Wood.names" (defArgs sWoodNames) (defBody sWoodNames) (defScope sWoodNames) [] [] (He.ma K (He.ga K "Wood") "names") (fdA K ("Wood", some "names")) := by
  obtain ⟨fd, F⟩ := T.c.d.def_ 38 (d := dWoodNames) rfl
  exact fdA_of (p := ("Wood", some "names")) F
theorem Tx.bWoodNames (T : Tx K mg) : Binds K (fdA K ("Wood", some "names")) ["self"] [] := T.fWoodNames.bindsN fun _ _ _ _ _ _ us hl => match us, hl with | [_], _ => rfl
theorem Tx.dWoodNames (T : Tx K mg) : MetOk K "Wood" "names" ["self"] := ⟨T.c_Wood, He.meth_ok (T.c.d.fact 100 (f := .meth "Wood" "names") rfl), T.bWoodNames⟩
theorem Tx.fWoodLetGo (T : Tx K mg) : FunD K "let_go" "Wood.let_go" (defArgs sWoodLetGo) (defBody sWoodLetGo) (defScope sWoodLetGo) [] [] (He.ma K (He.ga K "Wood") "let_go") (fdA K ("Wood", some "let_go")) := by
  obtain ⟨fd, F⟩ := T.c.d.def_ 39 (d := dWoodLetGo) rfl
  exact fdA_of (p := ("Wood", some "let_go")) F
theorem Tx.bWoodLetGo (T : Tx K mg) : Binds K (fdA K ("Wood", some "let_go")) ["self", "held"] [] := T.fWoodLetGo.bindsN fun _ _ _ _ _ _ us hl => match us, hl with | [_, _], _ => rfl
theorem Tx.dWoodLetGo (T : Tx K mg) : MetOk K "Wood" "let_go" ["self", "held"] := ⟨T.c_Wood, He.meth_ok (T.c.d.fact 101 (f := .meth "Wood" "let_go") rfl), T.bWoodLetGo⟩
theorem Tx.fLawCellAt (T : Tx K mg) : FunD K "_law_cell_at" "_law_cell_at" (defArgs sLawCellAt) (defBody sLawCellAt) (defScope sLawCellAt) [] [] (He.ga K "_law_cell_at") (fdA K ("_law_cell_at", none)) := by
  obtain ⟨fd, F⟩ := T.c.d.def_ 40 (d := dLawCellAt) rfl
  exact fdA_of (p := ("_law_cell_at", none)) F
theorem Tx.bLawCellAt (T : Tx K mg) : Binds K (fdA K ("_law_cell_at", none)) ["_law_script", "_law_k"] [] := T.fLawCellAt.bindsN fun _ _ _ _ _ _ us hl => match us, hl with | [_, _], _ => rfl
theorem Tx.dLawCellAt (T : Tx K mg) : DefOk K mg "_law_cell_at" ["_law_script", "_law_k"] := ⟨T.g__law_cell_at, T.fLawCellAt.kp, T.bLawCellAt⟩
theorem Tx.fLawFeed (T : Tx K mg) : FunD K "_law_feed" "_law_feed" (defArgs sLawFeed) (defBody sLawFeed) (defScope sLawFeed) [] [] (He.ga K "_law_feed") (fdA K ("_law_feed", none)) := by
  obtain ⟨fd, F⟩ := T.c.d.def_ 41 (d := dLawFeed) rfl
  exact fdA_of (p := ("_law_feed", none)) F
theorem Tx.bLawFeed (T : Tx K mg) : Binds K (fdA K ("_law_feed", none)) ["_law_cell", "_law_k"] [] := T.fLawFeed.bindsN fun _ _ _ _ _ _ us hl => match us, hl with | [_, _], _ => rfl
theorem Tx.dLawFeed (T : Tx K mg) : DefOk K mg "_law_feed" ["_law_cell", "_law_k"] := ⟨T.g__law_feed, T.fLawFeed.kp, T.bLawFeed⟩
theorem Tx.fLawTake (T : Tx K mg) : FunD K "_law_take" "_law_take" (defArgs sLawTake) (defBody sLawTake) (defScope sLawTake) [] [] (He.ga K "_law_take") (fdA K ("_law_take", none)) := by
  obtain ⟨fd, F⟩ := T.c.d.def_ 42 (d := dLawTake) rfl
  exact fdA_of (p := ("_law_take", none)) F
theorem Tx.bLawTake (T : Tx K mg) : Binds K (fdA K ("_law_take", none)) ["_law_feed_here", "_law_many"] [] := T.fLawTake.bindsN fun _ _ _ _ _ _ us hl => match us, hl with | [_, _], _ => rfl
theorem Tx.dLawTake (T : Tx K mg) : DefOk K mg "_law_take" ["_law_feed_here", "_law_many"] := ⟨T.g__law_take, T.fLawTake.kp, T.bLawTake⟩
theorem Tx.fLawWords (T : Tx K mg) : FunD K "_law_words" "_law_words" (defArgs sLawWords) (defBody sLawWords) (defScope sLawWords) [] [] (He.ga K "_law_words") (fdA K ("_law_words", none)) := by
  obtain ⟨fd, F⟩ := T.c.d.def_ 43 (d := dLawWords) rfl
  exact fdA_of (p := ("_law_words", none)) F
theorem Tx.bLawWords (T : Tx K mg) : Binds K (fdA K ("_law_words", none)) ["_law_feed_here"] [] := T.fLawWords.bindsN fun _ _ _ _ _ _ us hl => match us, hl with | [_], _ => rfl
theorem Tx.dLawWords (T : Tx K mg) : DefOk K mg "_law_words" ["_law_feed_here"] := ⟨T.g__law_words, T.fLawWords.kp, T.bLawWords⟩
theorem Tx.fLawWritten (T : Tx K mg) : FunD K "_law_written" "_law_written" (defArgs sLawWritten) (defBody sLawWritten) (defScope sLawWritten) [] [] (He.ga K "_law_written") (fdA K ("_law_written", none)) := by
  obtain ⟨fd, F⟩ := T.c.d.def_ 44 (d := dLawWritten) rfl
  exact fdA_of (p := ("_law_written", none)) F
theorem Tx.bLawWritten (T : Tx K mg) : Binds K (fdA K ("_law_written", none)) ["_law_items_here"] [] := T.fLawWritten.bindsN fun _ _ _ _ _ _ us hl => match us, hl with | [_], _ => rfl
theorem Tx.dLawWritten (T : Tx K mg) : DefOk K mg "_law_written" ["_law_items_here"] := ⟨T.g__law_written, T.fLawWritten.kp, T.bLawWritten⟩
theorem Tx.fLawItems (T : Tx K mg) : FunD K "_law_items" "_law_items" (defArgs sLawItems) (defBody sLawItems) (defScope sLawItems) [] [] (He.ga K "_law_items") (fdA K ("_law_items", none)) := by
  obtain ⟨fd, F⟩ := T.c.d.def_ 45 (d := dLawItems) rfl
  exact fdA_of (p := ("_law_items", none)) F
theorem Tx.bLawItems (T : Tx K mg) : Binds K (fdA K ("_law_items", none)) ["_law_feed_here", "_law_many", "_law_deep"] [] := T.fLawItems.bindsN fun _ _ _ _ _ _ us hl => match us, hl with | [_, _, _], _ => rfl
theorem Tx.dLawItems (T : Tx K mg) : DefOk K mg "_law_items" ["_law_feed_here", "_law_many", "_law_deep"] := ⟨T.g__law_items, T.fLawItems.kp, T.bLawItems⟩
theorem Tx.fLawWhere (T : Tx K mg) : FunD K "_law_where" "_law_where" (defArgs sLawWhere) (defBody sLawWhere) (defScope sLawWhere) [] [] (He.ga K "_law_where") (fdA K ("_law_where", none)) := by
  obtain ⟨fd, F⟩ := T.c.d.def_ 46 (d := dLawWhere) rfl
  exact fdA_of (p := ("_law_where", none)) F
theorem Tx.bLawWhere (T : Tx K mg) : Binds K (fdA K ("_law_where", none)) ["_law_feed_here"] [] := T.fLawWhere.bindsN fun _ _ _ _ _ _ us hl => match us, hl with | [_], _ => rfl
theorem Tx.dLawWhere (T : Tx K mg) : DefOk K mg "_law_where" ["_law_feed_here"] := ⟨T.g__law_where, T.fLawWhere.kp, T.bLawWhere⟩
theorem Tx.fLawStand (T : Tx K mg) : FunD K "_law_stand" "_law_stand" (defArgs sLawStand) (defBody sLawStand) (defScope sLawStand) [] [] (He.ga K "_law_stand") (fdA K ("_law_stand", none)) := by
  obtain ⟨fd, F⟩ := T.c.d.def_ 47 (d := dLawStand) rfl
  exact fdA_of (p := ("_law_stand", none)) F
theorem Tx.bLawStand (T : Tx K mg) : Binds K (fdA K ("_law_stand", none)) ["_law_feed_here"] [] := T.fLawStand.bindsN fun _ _ _ _ _ _ us hl => match us, hl with | [_], _ => rfl
theorem Tx.dLawStand (T : Tx K mg) : DefOk K mg "_law_stand" ["_law_feed_here"] := ⟨T.g__law_stand, T.fLawStand.kp, T.bLawStand⟩
theorem Tx.fLawId (T : Tx K mg) : FunD K "_law_id" "_law_id" (defArgs sLawId) (defBody sLawId) (defScope sLawId) [] [] (He.ga K "_law_id") (fdA K ("_law_id", none)) := by
  obtain ⟨fd, F⟩ := T.c.d.def_ 48 (d := dLawId) rfl
  exact fdA_of (p := ("_law_id", none)) F
theorem Tx.bLawId (T : Tx K mg) : Binds K (fdA K ("_law_id", none)) ["_law_world", "_law_stand_here", "_law_elders_here", "_law_words_here"] [] := T.fLawId.bindsN fun _ _ _ _ _ _ us hl => match us, hl with | [_, _, _, _], _ => rfl
theorem Tx.dLawId (T : Tx K mg) : DefOk K mg "_law_id" ["_law_world", "_law_stand_here", "_law_elders_here", "_law_words_here"] := ⟨T.g__law_id, T.fLawId.kp, T.bLawId⟩
theorem Tx.fLawPut (T : Tx K mg) : FunD K "_law_put" "_law_put" (defArgs sLawPut) (defBody sLawPut) (defScope sLawPut) [] [] (He.ga K "_law_put") (fdA K ("_law_put", none)) := by
  obtain ⟨fd, F⟩ := T.c.d.def_ 49 (d := dLawPut) rfl
  exact fdA_of (p := ("_law_put", none)) F
theorem Tx.bLawPut (T : Tx K mg) : Binds K (fdA K ("_law_put", none)) ["_law_world", "_law_model_here", "_law_stand_here", "_law_elders_here", "_law_words_here"] [] := T.fLawPut.bindsN fun _ _ _ _ _ _ us hl => match us, hl with | [_, _, _, _, _], _ => rfl
theorem Tx.dLawPut (T : Tx K mg) : DefOk K mg "_law_put" ["_law_world", "_law_model_here", "_law_stand_here", "_law_elders_here", "_law_words_here"] := ⟨T.g__law_put, T.fLawPut.kp, T.bLawPut⟩
theorem Tx.fLawModel (T : Tx K mg) : FunD K "_law_model" "_law_model" (defArgs sLawModel) (defBody sLawModel) (defScope sLawModel) [] [] (He.ga K "_law_model") (fdA K ("_law_model", none)) := by
  obtain ⟨fd, F⟩ := T.c.d.def_ 50 (d := dLawModel) rfl
  exact fdA_of (p := ("_law_model", none)) F
theorem Tx.bLawModel (T : Tx K mg) : Binds K (fdA K ("_law_model", none)) [] [] := T.fLawModel.bindsN fun _ _ _ _ _ _ us hl => match us, hl with | [], _ => rfl
theorem Tx.dLawModel (T : Tx K mg) : DefOk K mg "_law_model" [] := ⟨T.g__law_model, T.fLawModel.kp, T.bLawModel⟩
theorem Tx.fLawElders (T : Tx K mg) : FunD K "_law_elders" "_law_elders" (defArgs sLawElders) (defBody sLawElders) (defScope sLawElders) [] [] (He.ga K "_law_elders") (fdA K ("_law_elders", none)) := by
  obtain ⟨fd, F⟩ := T.c.d.def_ 51 (d := dLawElders) rfl
  exact fdA_of (p := ("_law_elders", none)) F
theorem Tx.bLawElders (T : Tx K mg) : Binds K (fdA K ("_law_elders", none)) ["_law_feed_here", "_law_model_here"] [] := T.fLawElders.bindsN fun _ _ _ _ _ _ us hl => match us, hl with | [_, _], _ => rfl
theorem Tx.dLawElders (T : Tx K mg) : DefOk K mg "_law_elders" ["_law_feed_here", "_law_model_here"] := ⟨T.g__law_elders, T.fLawElders.kp, T.bLawElders⟩
theorem Tx.fLawLine (T : Tx K mg) : FunD K "_law_line" "_law_line" (defArgs sLawLine) (defBody sLawLine) (defScope sLawLine) [] [] (He.ga K "_law_line") (fdA K ("_law_line", none)) := by
  obtain ⟨fd, F⟩ := T.c.d.def_ 52 (d := dLawLine) rfl
  exact fdA_of (p := ("_law_line", none)) F
theorem Tx.bLawLine (T : Tx K mg) : Binds K (fdA K ("_law_line", none)) ["_law_model_here", "_law_numbers"] [] := T.fLawLine.bindsN fun _ _ _ _ _ _ us hl => match us, hl with | [_, _], _ => rfl
theorem Tx.dLawLine (T : Tx K mg) : DefOk K mg "_law_line" ["_law_model_here", "_law_numbers"] := ⟨T.g__law_line, T.fLawLine.kp, T.bLawLine⟩
theorem Tx.fLawIsWood (T : Tx K mg) : FunD K "_law_is_wood" "_law_is_wood" (defArgs sLawIsWood) (defBody sLawIsWood) (defScope sLawIsWood) [] [] (He.ga K "_law_is_wood") (fdA K ("_law_is_wood", none)) := by
  obtain ⟨fd, F⟩ := T.c.d.def_ 53 (d := dLawIsWood) rfl
  exact fdA_of (p := ("_law_is_wood", none)) F
theorem Tx.bLawIsWood (T : Tx K mg) : Binds K (fdA K ("_law_is_wood", none)) ["_law_wood", "_law_model_here"] [] := T.fLawIsWood.bindsN fun _ _ _ _ _ _ us hl => match us, hl with | [_, _], _ => rfl
theorem Tx.dLawIsWood (T : Tx K mg) : DefOk K mg "_law_is_wood" ["_law_wood", "_law_model_here"] := ⟨T.g__law_is_wood, T.fLawIsWood.kp, T.bLawIsWood⟩
theorem Tx.fLawAlike (T : Tx K mg) : FunD K "_law_alike" "_law_alike" (defArgs sLawAlike) (defBody sLawAlike) (defScope sLawAlike) [] [] (He.ga K "_law_alike") (fdA K ("_law_alike", none)) := by
  obtain ⟨fd, F⟩ := T.c.d.def_ 54 (d := dLawAlike) rfl
  exact fdA_of (p := ("_law_alike", none)) F
theorem Tx.bLawAlike (T : Tx K mg) : Binds K (fdA K ("_law_alike", none)) ["_law_one", "_law_other"] [] := T.fLawAlike.bindsN fun _ _ _ _ _ _ us hl => match us, hl with | [_, _], _ => rfl
theorem Tx.dLawAlike (T : Tx K mg) : DefOk K mg "_law_alike" ["_law_one", "_law_other"] := ⟨T.g__law_alike, T.fLawAlike.kp, T.bLawAlike⟩
theorem Tx.fLawPutIn (T : Tx K mg) : FunD K "_law_put_in" "_law_put_in" (defArgs sLawPutIn) (defBody sLawPutIn) (defScope sLawPutIn) [] [] (He.ga K "_law_put_in") (fdA K ("_law_put_in", none)) := by
  obtain ⟨fd, F⟩ := T.c.d.def_ 55 (d := dLawPutIn) rfl
  exact fdA_of (p := ("_law_put_in", none)) F
theorem Tx.bLawPutIn (T : Tx K mg) : Binds K (fdA K ("_law_put_in", none)) ["_law_woods", "_law_models", "_law_world", "_law_at", "_law_feed_here"] [] := T.fLawPutIn.bindsN fun _ _ _ _ _ _ us hl => match us, hl with | [_, _, _, _, _], _ => rfl
theorem Tx.dLawPutIn (T : Tx K mg) : DefOk K mg "_law_put_in" ["_law_woods", "_law_models", "_law_world", "_law_at", "_law_feed_here"] := ⟨T.g__law_put_in, T.fLawPutIn.kp, T.bLawPutIn⟩
theorem Tx.fLawPutInBoth (T : Tx K mg) : FunD K "_law_put_in_both" "_law_put_in_both" (defArgs sLawPutInBoth) (defBody sLawPutInBoth) (defScope sLawPutInBoth) [] [] (He.ga K "_law_put_in_both") (fdA K ("_law_put_in_both", none)) := by
  obtain ⟨fd, F⟩ := T.c.d.def_ 56 (d := dLawPutInBoth) rfl
  exact fdA_of (p := ("_law_put_in_both", none)) F
theorem Tx.bLawPutInBoth (T : Tx K mg) : Binds K (fdA K ("_law_put_in_both", none)) ["_law_woods", "_law_models", "_law_world", "_law_feed_here"] [] := T.fLawPutInBoth.bindsN fun _ _ _ _ _ _ us hl => match us, hl with | [_, _, _, _], _ => rfl
theorem Tx.dLawPutInBoth (T : Tx K mg) : DefOk K mg "_law_put_in_both" ["_law_woods", "_law_models", "_law_world", "_law_feed_here"] := ⟨T.g__law_put_in_both, T.fLawPutInBoth.kp, T.bLawPutInBoth⟩
theorem Tx.fLawPutSome (T : Tx K mg) : FunD K "_law_put_some" "_law_put_some" (defArgs sLawPutSome) (defBody sLawPutSome) (defScope sLawPutSome) [] [] (He.ga K "_law_put_some") (fdA K ("_law_put_some", none)) := by
  obtain ⟨fd, F⟩ := T.c.d.def_ 57 (d := dLawPutSome) rfl
  exact fdA_of (p := ("_law_put_some", none)) F
theorem Tx.bLawPutSome (T : Tx K mg) : Binds K (fdA K ("_law_put_some", none)) ["_law_woods", "_law_models", "_law_world", "_law_cell", "_law_k"] [] := T.fLawPutSome.bindsN fun _ _ _ _ _ _ us hl => match us, hl with | [_, _, _, _, _], _ => rfl
theorem Tx.dLawPutSome (T : Tx K mg) : DefOk K mg "_law_put_some" ["_law_woods", "_law_models", "_law_world", "_law_cell", "_law_k"] := ⟨T.g__law_put_some, T.fLawPutSome.kp, T.bLawPutSome⟩
theorem Tx.fLawLacking (T : Tx K mg) : FunD K "_law_lacking" "_law_lacking" (defArgs sLawLacking) (defBody sLawLacking) (defScope sLawLacking) [] [] (He.ga K "_law_lacking") (fdA K ("_law_lacking", none)) := by
  obtain ⟨fd, F⟩ := T.c.d.def_ 58 (d := dLawLacking) rfl
  exact fdA_of (p := ("_law_lacking", none)) F
theorem Tx.bLawLacking (T : Tx K mg) : Binds K (fdA K ("_law_lacking", none)) ["_law_here", "_law_there", "_law_name"] [] := T.fLawLacking.bindsN fun _ _ _ _ _ _ us hl => match us, hl with | [_, _, _], _ => rfl
theorem Tx.dLawLacking (T : Tx K mg) : DefOk K mg "_law_lacking" ["_law_here", "_law_there", "_law_name"] := ⟨T.g__law_lacking, T.fLawLacking.kp, T.bLawLacking⟩
theorem Tx.fLawStep (T : Tx K mg) : FunD K "_law_step" "_law_step" (defArgs sLawStep) (defBody sLawStep) (defScope sLawStep) [] [] (He.ga K "_law_step") (fdA K ("_law_step", none)) := by
  obtain ⟨fd, F⟩ := T.c.d.def_ 59 (d := dLawStep) rfl
  exact fdA_of (p := ("_law_step", none)) F
theorem Tx.bLawStep (T : Tx K mg) : Binds K (fdA K ("_law_step", none)) ["_law_world", "_law_here", "_law_there", "_law_name"] [] := T.fLawStep.bindsN fun _ _ _ _ _ _ us hl => match us, hl with | [_, _, _, _], _ => rfl
theorem Tx.dLawStep (T : Tx K mg) : DefOk K mg "_law_step" ["_law_world", "_law_here", "_law_there", "_law_name"] := ⟨T.g__law_step, T.fLawStep.kp, T.bLawStep⟩
theorem Tx.fLawNamed (T : Tx K mg) : FunD K "_law_named" "_law_named" (defArgs sLawNamed) (defBody sLawNamed) (defScope sLawNamed) [] [] (He.ga K "_law_named") (fdA K ("_law_named", none)) := by
  obtain ⟨fd, F⟩ := T.c.d.def_ 60 (d := dLawNamed) rfl
  exact fdA_of (p := ("_law_named", none)) F
theorem Tx.bLawNamed (T : Tx K mg) : Binds K (fdA K ("_law_named", none)) ["_law_woods", "_law_models", "_law_feed_here"] [] := T.fLawNamed.bindsN fun _ _ _ _ _ _ us hl => match us, hl with | [_, _, _], _ => rfl
theorem Tx.dLawNamed (T : Tx K mg) : DefOk K mg "_law_named" ["_law_woods", "_law_models", "_law_feed_here"] := ⟨T.g__law_named, T.fLawNamed.kp, T.bLawNamed⟩
theorem Tx.fLawLetGo (T : Tx K mg) : FunD K "_law_let_go" "_law_let_go" (defArgs sLawLetGo) (defBody sLawLetGo) (defScope sLawLetGo) [] [] (He.ga K "_law_let_go") (fdA K ("_law_let_go", none)) := by
  obtain ⟨fd, F⟩ := T.c.d.def_ 61 (d := dLawLetGo) rfl
  exact fdA_of (p := ("_law_let_go", none)) F
theorem Tx.bLawLetGo (T : Tx K mg) : Binds K (fdA K ("_law_let_go", none)) ["_law_wood", "_law_model_here", "_law_held"] [] := T.fLawLetGo.bindsN fun _ _ _ _ _ _ us hl => match us, hl with | [_, _, _], _ => rfl
theorem Tx.dLawLetGo (T : Tx K mg) : DefOk K mg "_law_let_go" ["_law_wood", "_law_model_here", "_law_held"] := ⟨T.g__law_let_go, T.fLawLetGo.kp, T.bLawLetGo⟩
theorem Tx.fLawStepped (T : Tx K mg) : FunD K "_law_stepped" "_law_stepped" (defArgs sLawStepped) (defBody sLawStepped) (defScope sLawStepped) [] [] (He.ga K "_law_stepped") (fdA K ("_law_stepped", none)) := by
  obtain ⟨fd, F⟩ := T.c.d.def_ 62 (d := dLawStepped) rfl
  exact fdA_of (p := ("_law_stepped", none)) F
theorem Tx.bLawStepped (T : Tx K mg) : Binds K (fdA K ("_law_stepped", none)) ["_law_road", "_law_woods", "_law_models", "_law_world"] [] := T.fLawStepped.bindsN fun _ _ _ _ _ _ us hl => match us, hl with | [_, _, _, _], _ => rfl
theorem Tx.dLawStepped (T : Tx K mg) : DefOk K mg "_law_stepped" ["_law_road", "_law_woods", "_law_models", "_law_world"] := ⟨T.g__law_stepped, T.fLawStepped.kp, T.bLawStepped⟩
theorem Tx.fLawDeed (T : Tx K mg) : FunD K "_law_deed" "_law_deed" (defArgs sLawDeed) (defBody sLawDeed) (defScope sLawDeed) [] [] (He.ga K "_law_deed") (fdA K ("_law_deed", none)) := by
  obtain ⟨fd, F⟩ := T.c.d.def_ 63 (d := dLawDeed) rfl
  exact fdA_of (p := ("_law_deed", none)) F
theorem Tx.bLawDeed (T : Tx K mg) : Binds K (fdA K ("_law_deed", none)) ["_law_woods", "_law_models", "_law_world", "_law_roads", "_law_cell", "_law_k"] [] := T.fLawDeed.bindsN fun _ _ _ _ _ _ us hl => match us, hl with | [_, _, _, _, _, _], _ => rfl
theorem Tx.dLawDeed (T : Tx K mg) : DefOk K mg "_law_deed" ["_law_woods", "_law_models", "_law_world", "_law_roads", "_law_cell", "_law_k"] := ⟨T.g__law_deed, T.fLawDeed.kp, T.bLawDeed⟩
theorem Tx.fLawBrought (T : Tx K mg) : FunD K "_law_brought" "_law_brought" (defArgs sLawBrought) (defBody sLawBrought) (defScope sLawBrought) [] [] (He.ga K "_law_brought") (fdA K ("_law_brought", none)) := by
  obtain ⟨fd, F⟩ := T.c.d.def_ 64 (d := dLawBrought) rfl
  exact fdA_of (p := ("_law_brought", none)) F
theorem Tx.bLawBrought (T : Tx K mg) : Binds K (fdA K ("_law_brought", none)) ["_law_woods", "_law_models", "_law_world", "_law_side", "_law_name"] [] := T.fLawBrought.bindsN fun _ _ _ _ _ _ us hl => match us, hl with | [_, _, _, _, _], _ => rfl
theorem Tx.dLawBrought (T : Tx K mg) : DefOk K mg "_law_brought" ["_law_woods", "_law_models", "_law_world", "_law_side", "_law_name"] := ⟨T.g__law_brought, T.fLawBrought.kp, T.bLawBrought⟩
theorem Tx.fLawWholeWoods (T : Tx K mg) : FunD K "_law_whole_woods" "_law_whole_woods" (defArgs sLawWholeWoods) (defBody sLawWholeWoods) (defScope sLawWholeWoods) [] [] (He.ga K "_law_whole_woods") (fdA K ("_law_whole_woods", none)) := by
  obtain ⟨fd, F⟩ := T.c.d.def_ 65 (d := dLawWholeWoods) rfl
  exact fdA_of (p := ("_law_whole_woods", none)) F
theorem Tx.bLawWholeWoods (T : Tx K mg) : Binds K (fdA K ("_law_whole_woods", none)) ["_law_woods", "_law_models"] [] := T.fLawWholeWoods.bindsN fun _ _ _ _ _ _ us hl => match us, hl with | [_, _], _ => rfl
theorem Tx.dLawWholeWoods (T : Tx K mg) : DefOk K mg "_law_whole_woods" ["_law_woods", "_law_models"] := ⟨T.g__law_whole_woods, T.fLawWholeWoods.kp, T.bLawWholeWoods⟩
theorem Tx.fLaw (T : Tx K mg) : FunD K "law" "law" (defArgs sLaw) (defBody sLaw) (defScope sLaw) [] [] (He.ga K "law") (fdA K ("law", none)) := by
  obtain ⟨fd, F⟩ := T.c.d.def_ 66 (d := dLaw) rfl
  exact fdA_of (p := ("law", none)) F
theorem Tx.bLaw (T : Tx K mg) : Binds K (fdA K ("law", none)) ["_law_script"] [] := T.fLaw.bindsN fun _ _ _ _ _ _ us hl => match us, hl with | [_], _ => rfl
theorem Tx.dLaw (T : Tx K mg) : DefOk K mg "law" ["_law_script"] := ⟨T.g_law, T.fLaw.kp, T.bLaw⟩
end
abbrev nNoMakeInit : List Str := ["self", "number"]
theorem scNoMakeInit : FnScope nNoMakeInit ["self", "number"] (defScope sNoMakeInit) := ⟨rfl, rfl, rfl, by decide +kernel, rfl, by decide +kernel, by decide +kernel⟩
abbrev nNoNameInit : List Str := ["self", "name"]
theorem scNoNameInit : FnScope nNoNameInit ["self", "name"] (defScope sNoNameInit) := ⟨rfl, rfl, rfl, by decide +kernel, rfl, by decide +kernel, by decide +kernel⟩
abbrev nLineOf : List Str := ["wood", "number", "found", "waiting", "one"]
theorem scLineOf : FnScope nLineOf ["wood", "number"] (defScope sLineOf) := ⟨rfl, rfl, rfl, by decide +kernel, rfl, by decide +kernel, by decide +kernel⟩
abbrev nAlikeMakes : List Str := ["wood", "other", "found", "number", "elders", "elder", "alike", "there"]
theorem scAlikeMakes : FnScope nAlikeMakes ["wood", "other"] (defScope sAlikeMakes) := ⟨rfl, rfl, rfl, by decide +kernel, rfl, by decide +kernel, by decide +kernel⟩
abbrev nLacking : List Str := ["wood", "other", "name", "number", "alike", "one"]
theorem scLacking : FnScope nLacking ["wood", "other", "name"] (defScope sLacking) := ⟨rfl, rfl, rfl, by decide +kernel, rfl, by decide +kernel, by decide +kernel⟩
abbrev nRoadInit : List Str := ["self", "wood", "other", "name"]
theorem scRoadInit : FnScope nRoadInit ["self", "wood", "other", "name"] (defScope sRoadInit) := ⟨rfl, rfl, rfl, by decide +kernel, rfl, by decide +kernel, by decide +kernel⟩
abbrev nRoadStep : List Str := ["self", "lacks", "alike", "number", "elders", "elder"]
theorem scRoadStep : FnScope nRoadStep ["self"] (defScope sRoadStep) := ⟨rfl, rfl, rfl, by decide +kernel, rfl, by decide +kernel, by decide +kernel⟩
abbrev nRoadHasEnded : List Str := ["self"]
theorem scRoadHasEnded : FnScope nRoadHasEnded ["self"] (defScope sRoadHasEnded) := ⟨rfl, rfl, rfl, by decide +kernel, rfl, by decide +kernel, by decide +kernel⟩
abbrev nComeTo : List Str := ["wood", "held", "there", "others", "one", "found", "number", "name"]
theorem scComeTo : FnScope nComeTo ["wood", "held"] (defScope sComeTo) := ⟨rfl, rfl, rfl, by decide +kernel, rfl, by decide +kernel, by decide +kernel⟩
abbrev nWrittenText : List Str := ["text"]
theorem scWrittenText : FnScope nWrittenText ["text"] (defScope sWrittenText) := ⟨rfl, rfl, rfl, by decide +kernel, rfl, by decide +kernel, by decide +kernel⟩
abbrev nWrittenClash : List Str := ["base", "parts"]
theorem scWrittenClash : FnScope nWrittenClash ["base", "parts"] (defScope sWrittenClash) := ⟨rfl, rfl, rfl, by decide +kernel, rfl, by decide +kernel, by decide +kernel⟩
abbrev nWrittenWhere : List Str := ["where", "part"]
theorem scWrittenWhere : FnScope nWrittenWhere ["where"] (defScope sWrittenWhere) := ⟨rfl, rfl, rfl, by decide +kernel, rfl, by decide +kernel, by decide +kernel⟩
abbrev nWrittenItem : List Str := ["item", "part"]
theorem scWrittenItem : FnScope nWrittenItem ["item"] (defScope sWrittenItem) := ⟨rfl, rfl, rfl, by decide +kernel, rfl, by decide +kernel, by decide +kernel⟩
abbrev nWrittenItems : List Str := ["items", "item"]
theorem scWrittenItems : FnScope nWrittenItems ["items"] (defScope sWrittenItems) := ⟨rfl, rfl, rfl, by decide +kernel, rfl, by decide +kernel, by decide +kernel⟩
abbrev nIsTextOf : List Str := ["thing", "signs", "sign"]
theorem scIsTextOf : FnScope nIsTextOf ["thing", "signs"] (defScope sIsTextOf) := ⟨rfl, rfl, rfl, by decide +kernel, rfl, by decide +kernel, by decide +kernel⟩
abbrev nIsLine : List Str := ["thing", "sign"]
theorem scIsLine : FnScope nIsLine ["thing"] (defScope sIsLine) := ⟨rfl, rfl, rfl, by decide +kernel, rfl, by decide +kernel, by decide +kernel⟩
abbrev nIsWord : List Str := ["thing"]
theorem scIsWord : FnScope nIsWord ["thing"] (defScope sIsWord) := ⟨rfl, rfl, rfl, by decide +kernel, rfl, by decide +kernel, by decide +kernel⟩
abbrev nIsPath : List Str := ["thing", "words", "word"]
theorem scIsPath : FnScope nIsPath ["thing"] (defScope sIsPath) := ⟨rfl, rfl, rfl, by decide +kernel, rfl, by decide +kernel, by decide +kernel⟩
abbrev nIsRoot : List Str := ["thing", "word", "point", "number"]
theorem scIsRoot : FnScope nIsRoot ["thing"] (defScope sIsRoot) := ⟨rfl, rfl, rfl, by decide +kernel, rfl, by decide +kernel, by decide +kernel⟩
abbrev nIsClash : List Str := ["thing"]
theorem scIsClash : FnScope nIsClash ["thing"] (defScope sIsClash) := ⟨rfl, rfl, rfl, by decide +kernel, rfl, by decide +kernel, by decide +kernel⟩
abbrev nIsItem : List Str := ["thing", "one", "other"]
theorem scIsItem : FnScope nIsItem ["thing"] (defScope sIsItem) := ⟨rfl, rfl, rfl, by decide +kernel, rfl, by decide +kernel, by decide +kernel⟩
abbrev nIsItems : List Str := ["thing", "item"]
theorem scIsItems : FnScope nIsItems ["thing"] (defScope sIsItems) := ⟨rfl, rfl, rfl, by decide +kernel, rfl, by decide +kernel, by decide +kernel⟩
abbrev nIsPlace : List Str := ["thing"]
theorem scIsPlace : FnScope nIsPlace ["thing"] (defScope sIsPlace) := ⟨rfl, rfl, rfl, by decide +kernel, rfl, by decide +kernel, by decide +kernel⟩
abbrev nIsWhere : List Str := ["thing", "one", "other"]
theorem scIsWhere : FnScope nIsWhere ["thing"] (defScope sIsWhere) := ⟨rfl, rfl, rfl, by decide +kernel, rfl, by decide +kernel, by decide +kernel⟩
abbrev nIsRow : List Str := ["thing"]
theorem scIsRow : FnScope nIsRow ["thing"] (defScope sIsRow) := ⟨rfl, rfl, rfl, by decide +kernel, rfl, by decide +kernel, by decide +kernel⟩
abbrev nIsStand : List Str := ["thing", "row", "roots", "one", "other"]
theorem scIsStand : FnScope nIsStand ["thing"] (defScope sIsStand) := ⟨rfl, rfl, rfl, by decide +kernel, rfl, by decide +kernel, by decide +kernel⟩
abbrev nWoodInit : List Str := ["self"]
theorem scWoodInit : FnScope nWoodInit ["self"] (defScope sWoodInit) := ⟨rfl, rfl, rfl, by decide +kernel, rfl, by decide +kernel, by decide +kernel⟩
abbrev nWoodIsThere : List Str := ["self", "number"]
theorem scWoodIsThere : FnScope nWoodIsThere ["self", "number"] (defScope sWoodIsThere) := ⟨rfl, rfl, rfl, by decide +kernel, rfl, by decide +kernel, by decide +kernel⟩
abbrev nWoodMakeAt : List Str := ["self", "number"]
theorem scWoodMakeAt : FnScope nWoodMakeAt ["self", "number"] (defScope sWoodMakeAt) := ⟨rfl, rfl, rfl, by decide +kernel, rfl, by decide +kernel, by decide +kernel⟩
abbrev nWoodPut : List Str := ["self", "stand", "elders", "words", "elder", "made"]
theorem scWoodPut : FnScope nWoodPut ["self", "stand", "elders", "words"] (defScope sWoodPut) := ⟨rfl, rfl, rfl, by decide +kernel, rfl, by decide +kernel, by decide +kernel⟩
abbrev nWoodStandOf : List Str := ["self", "number"]
theorem scWoodStandOf : FnScope nWoodStandOf ["self", "number"] (defScope sWoodStandOf) := ⟨rfl, rfl, rfl, by decide +kernel, rfl, by decide +kernel, by decide +kernel⟩
abbrev nWoodEldersOf : List Str := ["self", "number"]
theorem scWoodEldersOf : FnScope nWoodEldersOf ["self", "number"] (defScope sWoodEldersOf) := ⟨rfl, rfl, rfl, by decide +kernel, rfl, by decide +kernel, by decide +kernel⟩
abbrev nWoodWordsOf : List Str := ["self", "number"]
theorem scWoodWordsOf : FnScope nWoodWordsOf ["self", "number"] (defScope sWoodWordsOf) := ⟨rfl, rfl, rfl, by decide +kernel, rfl, by decide +kernel, by decide +kernel⟩
abbrev nWoodMakes : List Str := ["self"]
theorem scWoodMakes : FnScope nWoodMakes ["self"] (defScope sWoodMakes) := ⟨rfl, rfl, rfl, by decide +kernel, rfl, by decide +kernel, by decide +kernel⟩
abbrev nWoodNumberOf : List Str := ["self", "stand", "elders", "words"]
theorem scWoodNumberOf : FnScope nWoodNumberOf ["self", "stand", "elders", "words"] (defScope sWoodNumberOf) := ⟨rfl, rfl, rfl, by decide +kernel, rfl, by decide +kernel, by decide +kernel⟩
abbrev nWoodSetName : List Str := ["self", "name", "number"]
theorem scWoodSetName : FnScope nWoodSetName ["self", "name", "number"] (defScope sWoodSetName) := ⟨rfl, rfl, rfl, by decide +kernel, rfl, by decide +kernel, by decide +kernel⟩
abbrev nWoodNamed : List Str := ["self", "name"]
theorem scWoodNamed : FnScope nWoodNamed ["self", "name"] (defScope sWoodNamed) := ⟨rfl, rfl, rfl, by decide +kernel, rfl, by decide +kernel, by decide +kernel⟩
abbrev nWoodDropName : List Str := ["self", "name"]
theorem scWoodDropName : FnScope nWoodDropName ["self", "name"] (defScope sWoodDropName) := ⟨rfl, rfl, rfl, by decide +kernel, rfl, by decide +kernel, by decide +kernel⟩
abbrev nWoodNames : List Str := ["self"]
theorem scWoodNames : FnScope nWoodNames ["self"] (defScope sWoodNames) := ⟨rfl, rfl, rfl, by decide +kernel, rfl, by decide +kernel, by decide +kernel⟩
abbrev nWoodLetGo : List Str := ["self", "held", "stay", "waiting", "number", "gone"]
theorem scWoodLetGo : FnScope nWoodLetGo ["self", "held"] (defScope sWoodLetGo) := ⟨rfl, rfl, rfl, by decide +kernel, rfl, by decide +kernel, by decide +kernel⟩
abbrev nLawCellAt : List Str := ["_law_script", "_law_k"]
theorem scLawCellAt : FnScope nLawCellAt ["_law_script", "_law_k"] (defScope sLawCellAt) := ⟨rfl, rfl, rfl, by decide +kernel, rfl, by decide +kernel, by decide +kernel⟩
abbrev nLawFeed : List Str := ["_law_cell", "_law_k"]
theorem scLawFeed : FnScope nLawFeed ["_law_cell", "_law_k"] (defScope sLawFeed) := ⟨rfl, rfl, rfl, by decide +kernel, rfl, by decide +kernel, by decide +kernel⟩
abbrev nLawTake : List Str := ["_law_feed_here", "_law_many", "_law_found"]
theorem scLawTake : FnScope nLawTake ["_law_feed_here", "_law_many"] (defScope sLawTake) := ⟨rfl, rfl, rfl, by decide +kernel, rfl, by decide +kernel, by decide +kernel⟩
abbrev nLawWords : List Str := ["_law_feed_here", "_law_signs", "_law_way", "_law_text", "_law_k"]
theorem scLawWords : FnScope nLawWords ["_law_feed_here"] (defScope sLawWords) := ⟨rfl, rfl, rfl, by decide +kernel, rfl, by decide +kernel, by decide +kernel⟩
abbrev nLawWritten : List Str := ["_law_items_here", "_law_text", "_law_item", "_law_parts", "_law_part"]
theorem scLawWritten : FnScope nLawWritten ["_law_items_here"] (defScope sLawWritten) := ⟨rfl, rfl, rfl, by decide +kernel, rfl, by decide +kernel, by decide +kernel⟩
abbrev nLawItems : List Str := ["_law_feed_here", "_law_many", "_law_deep", "_law_found", "_law_k", "_law_three", "_law_part"]
theorem scLawItems : FnScope nLawItems ["_law_feed_here", "_law_many", "_law_deep"] (defScope sLawItems) := ⟨rfl, rfl, rfl, by decide +kernel, rfl, by decide +kernel, by decide +kernel⟩
abbrev nLawWhere : List Str := ["_law_feed_here", "_law_some", "_law_base"]
theorem scLawWhere : FnScope nLawWhere ["_law_feed_here"] (defScope sLawWhere) := ⟨rfl, rfl, rfl, by decide +kernel, rfl, by decide +kernel, by decide +kernel⟩
abbrev nLawStand : List Str := ["_law_feed_here", "_law_rows", "_law_most", "_law_root"]
theorem scLawStand : FnScope nLawStand ["_law_feed_here"] (defScope sLawStand) := ⟨rfl, rfl, rfl, by decide +kernel, rfl, by decide +kernel, by decide +kernel⟩
abbrev nLawId : List Str := ["_law_world", "_law_stand_here", "_law_elders_here", "_law_words_here", "_law_key"]
theorem scLawId : FnScope nLawId ["_law_world", "_law_stand_here", "_law_elders_here", "_law_words_here"] (defScope sLawId) := ⟨rfl, rfl, rfl, by decide +kernel, rfl, by decide +kernel, by decide +kernel⟩
abbrev nLawPut : List Str := ["_law_world", "_law_model_here", "_law_stand_here", "_law_elders_here", "_law_words_here", "_law_one", "_law_elder", "_law_number", "_law_other"]
theorem scLawPut : FnScope nLawPut ["_law_world", "_law_model_here", "_law_stand_here", "_law_elders_here", "_law_words_here"] (defScope sLawPut) := ⟨rfl, rfl, rfl, by decide +kernel, rfl, by decide +kernel, by decide +kernel⟩
abbrev nLawModel : List Str := []
theorem scLawModel : FnScope nLawModel [] (defScope sLawModel) := ⟨rfl, rfl, rfl, by decide +kernel, rfl, by decide +kernel, by decide +kernel⟩
abbrev nLawElders : List Str := ["_law_feed_here", "_law_model_here", "_law_found", "_law_there", "_law_k", "_law_at"]
theorem scLawElders : FnScope nLawElders ["_law_feed_here", "_law_model_here"] (defScope sLawElders) := ⟨rfl, rfl, rfl, by decide +kernel, rfl, by decide +kernel, by decide +kernel⟩
abbrev nLawLine : List Str := ["_law_model_here", "_law_numbers", "_law_found", "_law_waiting", "_law_number"]
theorem scLawLine : FnScope nLawLine ["_law_model_here", "_law_numbers"] (defScope sLawLine) := ⟨rfl, rfl, rfl, by decide +kernel, rfl, by decide +kernel, by decide +kernel⟩
abbrev nLawIsWood : List Str := ["_law_wood", "_law_model_here", "_law_number", "_law_told", "_law_name"]
theorem scLawIsWood : FnScope nLawIsWood ["_law_wood", "_law_model_here"] (defScope sLawIsWood) := ⟨rfl, rfl, rfl, by decide +kernel, rfl, by decide +kernel, by decide +kernel⟩
abbrev nLawAlike : List Str := ["_law_one", "_law_other", "_law_back", "_law_number", "_law_key", "_law_found"]
theorem scLawAlike : FnScope nLawAlike ["_law_one", "_law_other"] (defScope sLawAlike) := ⟨rfl, rfl, rfl, by decide +kernel, rfl, by decide +kernel, by decide +kernel⟩
abbrev nLawPutIn : List Str := ["_law_woods", "_law_models", "_law_world", "_law_at", "_law_feed_here", "_law_elders_here", "_law_words_here", "_law_stand_here"]
theorem scLawPutIn : FnScope nLawPutIn ["_law_woods", "_law_models", "_law_world", "_law_at", "_law_feed_here"] (defScope sLawPutIn) := ⟨rfl, rfl, rfl, by decide +kernel, rfl, by decide +kernel, by decide +kernel⟩
abbrev nLawPutInBoth : List Str := ["_law_woods", "_law_models", "_law_world", "_law_feed_here", "_law_alike_here", "_law_there", "_law_elders_here", "_law_k", "_law_words_here", "_law_stand_here", "_law_others", "_law_elder"]
theorem scLawPutInBoth : FnScope nLawPutInBoth ["_law_woods", "_law_models", "_law_world", "_law_feed_here"] (defScope sLawPutInBoth) := ⟨rfl, rfl, rfl, by decide +kernel, rfl, by decide +kernel, by decide +kernel⟩
abbrev nLawPutSome : List Str := ["_law_woods", "_law_models", "_law_world", "_law_cell", "_law_k", "_law_feed_here", "_law_way"]
theorem scLawPutSome : FnScope nLawPutSome ["_law_woods", "_law_models", "_law_world", "_law_cell", "_law_k"] (defScope sLawPutSome) := ⟨rfl, rfl, rfl, by decide +kernel, rfl, by decide +kernel, by decide +kernel⟩
abbrev nLawLacking : List Str := ["_law_here", "_law_there", "_law_name", "_law_alike_here", "_law_number"]
theorem scLawLacking : FnScope nLawLacking ["_law_here", "_law_there", "_law_name"] (defScope sLawLacking) := ⟨rfl, rfl, rfl, by decide +kernel, rfl, by decide +kernel, by decide +kernel⟩
abbrev nLawStep : List Str := ["_law_world", "_law_here", "_law_there", "_law_name", "_law_alike_here", "_law_lacks", "_law_elders_here", "_law_elder", "_law_stand_here", "_law_words_here"]
theorem scLawStep : FnScope nLawStep ["_law_world", "_law_here", "_law_there", "_law_name"] (defScope sLawStep) := ⟨rfl, rfl, rfl, by decide +kernel, rfl, by decide +kernel, by decide +kernel⟩
abbrev nLawNamed : List Str := ["_law_woods", "_law_models", "_law_feed_here", "_law_at", "_law_name", "_law_there"]
theorem scLawNamed : FnScope nLawNamed ["_law_woods", "_law_models", "_law_feed_here"] (defScope sLawNamed) := ⟨rfl, rfl, rfl, by decide +kernel, rfl, by decide +kernel, by decide +kernel⟩
abbrev nLawLetGo : List Str := ["_law_wood", "_law_model_here", "_law_held", "_law_stay", "_law_one", "_law_gone", "_law_number"]
theorem scLawLetGo : FnScope nLawLetGo ["_law_wood", "_law_model_here", "_law_held"] (defScope sLawLetGo) := ⟨rfl, rfl, rfl, by decide +kernel, rfl, by decide +kernel, by decide +kernel⟩
abbrev nLawStepped : List Str := ["_law_road", "_law_woods", "_law_models", "_law_world", "_law_way", "_law_name", "_law_over", "_law_told", "e", "_law_due", "_law_ended"]
theorem scLawStepped : FnScope nLawStepped ["_law_road", "_law_woods", "_law_models", "_law_world"] (defScope sLawStepped) := ⟨rfl, rfl, rfl, by decide +kernel, rfl, by decide +kernel, by decide +kernel⟩
abbrev nLawDeed : List Str := ["_law_woods", "_law_models", "_law_world", "_law_roads", "_law_cell", "_law_k", "_law_feed_here", "_law_way", "_law_at", "_law_held", "_law_one", "_law_slot", "_law_side", "_law_name", "_law_turn"]
theorem scLawDeed : FnScope nLawDeed ["_law_woods", "_law_models", "_law_world", "_law_roads", "_law_cell", "_law_k"] (defScope sLawDeed) := ⟨rfl, rfl, rfl, by decide +kernel, rfl, by decide +kernel, by decide +kernel⟩
abbrev nLawBrought : List Str := ["_law_woods", "_law_models", "_law_world", "_law_side", "_law_name", "_law_road", "_law_turn", "_law_alike_here"]
theorem scLawBrought : FnScope nLawBrought ["_law_woods", "_law_models", "_law_world", "_law_side", "_law_name"] (defScope sLawBrought) := ⟨rfl, rfl, rfl, by decide +kernel, rfl, by decide +kernel, by decide +kernel⟩
abbrev nLawWholeWoods : List Str := ["_law_woods", "_law_models"]
theorem scLawWholeWoods : FnScope nLawWholeWoods ["_law_woods", "_law_models"] (defScope sLawWholeWoods) := ⟨rfl, rfl, rfl, by decide +kernel, rfl, by decide +kernel, by decide +kernel⟩
abbrev nLaw : List Str := ["_law_script", "_law_woods", "_law_models", "_law_world", "_law_roads", "_law_k", "_law_first", "_law_side", "_law_name"]
theorem scLaw : FnScope nLaw ["_law_script"] (defScope sLaw) := ⟨rfl, rfl, rfl, by decide +kernel, rfl, by decide +kernel, by decide +kernel⟩
end Mw

/-! isinstance by tags, comprehensions of True alone, all(..) of them, names with a fixed value. -/
namespace Mw
open PySem PySem.Spec PyProof.Rows L2
/-- a value's kind -/
inductive Tg where
  | non | bl | int | str | tup
def Tg.nm : Tg → String
  | .non => "NoneType"
  | .bl => "bool"
  | .int => "int"
  | .str => "str"
  | .tup => "tuple"
def isiA : Tg → Tg → Bool
  | .non, .non => true
  | .bl, .bl => true
  | .bl, .int => true
  | .int, .int => true
  | .str, .str => true
  | .tup, .tup => true
  | _, _ => false
inductive VT (H : Hp) : V → Tg → Prop where
  | non : VT H .non .non
  | bl (b : Bool) : VT H (.bl b) .bl
  | int (i : Int) : VT H (.int i) .int
  | str (x : Str) : VT H (.str x) .str
  | tup {a : Addr} {xs : List V} (h : H a = some (.tup xs)) : VT H (.ref a) .tup
theorem VT.x {K : PySem.W.Frag} {H : Hp} {x : V} {n : Tg} (h : VT H x n) : TyX K H x (.type n.nm) := by
  cases h with
  | non => exact .base .non
  | bl b => exact .base (.bl b)
  | int i => exact .base (.int i)
  | str x => exact .base (.str x)
  | tup h => exact .base (.tup h)
theorem isi_k : ∀ n T : Tg, kitB n.nm T.nm = some (isiA n T) := by
  intro n T
  cases n <;> cases T <;> decide +kernel
section
variable {X : Cx}
def rIs (T : Tg) : List V → Hp → VK → Prop := fun xs H Q => ∃ x n, xs = [x, .ty T.nm] ∧ VT H x n ∧ Q (.bl (isiA n T)) H
theorem call_is (T : Tg) : CallR X (.builtin "isinstance") (rIs T) := by
  intro pins s σ H xs us Q I r h
  obtain ⟨x, n, rfl, t, q⟩ := h
  exact call_isi pins s σ H _ us Q I r ⟨x, _, _, _, _, rfl, .ty _, t.x, kit_ty (isi_k n T), q⟩
variable {e : Expr} {te : TE} {p p2 pos : Pos}
/-- isinstance(e, T) -/
theorem pe_is (T : Tg) {y : Str} (he : PE X e te) (h1 : X.mg "isinstance" = none) (h2 : X.mg y = none) (hg : Gl X "isinstance" := by rfl) (hg2 : Gl X y := by rfl) (hb : bootBuiltins y = some (.type T.nm) := by decide +kernel)
    (hs : starEach [e, .Name y p2] X.env = (false, eval e X.env) :: starEach [.Name y p2] X.env := by rfl) (hpl : (backTo pos (starEach [.Name y p2] X.env)).any (·.1) = false := by rfl)
    (hn : y ≠ "__name__" := by decide) (hdb : (y == ("__debug__" : Str)) = false := by decide) :
    PE X (.Call (.Name "isinstance" p) [e, .Name y p2] [] pos) (tCB (rIs T) (tCons te (tCons (tC (.ty T.nm)) tNil))) :=
  pe_callB (call_is T) hg h1 (by decide +kernel) (pa_cons he (pa_cons (pe_bltn hg2 h2 hb rfl hn hdb) pa_nil) hs) (by decide) (by decide) hs hpl
end
/-- a comprehension that makes but True -/
theorem lc_true {J : It} {n : Nat} {H1 : Hp} {Y : Nat → V → Hp → Prop} {g : TG} {te : TE} {vs : List Nat} {σ : L2.St} {D : Addr} {Qd : Hp → Prop} (w : Wk J n [] H1 Y) (nD : H1 D = none) (hn : n ≤ sizeLine)
    (hs : ∀ i x H (k : VK), i < n → Same H1 H → Y i x H → (∀ H4, Same H H4 → k (.bl true) H4) → g x (wipe σ vs) H fun σ2 H2 => wipe σ2 vs = wipe σ vs ∧ te σ2 H2 k)
    (hd : ∀ H, Same H1 H → H D = some (.lst ((List.replicate n true).map V.bl)) → Qd H) :
    ∃ W : Nat → Nat → Hp → Prop, (∃ m, W 0 m (upd H1 D (.lst []))) ∧ ∀ i m H, W i m H →
      (J.stop i H ∧ Qd H) ∨ (J.go i H ∧ ∃ Nx : Hp → Prop, (∀ H', Nx H' → ∃ m', m' < m ∧ W (i + 1) m' H') ∧ ∀ x H', J.yld i H x H' → g x (wipe σ vs) H' fun σ2 H2 => wipe σ2 vs = wipe σ vs ∧ tYes σ2 H2 fun b H3 =>
        if b = true then te σ2 H3 fun y H4 => ∃ acc, H4 D = some (.lst acc) ∧ acc.length < sizeLine ∧ Nx (upd H4 D (.lst (acc ++ [y]))) else Nx H3) := by
  refine lc_same w nD (fun i acc => acc = (List.replicate i true).map V.bl) rfl (fun i x acc H hi hl hD s r y => ?_) (fun acc H s r hD => hd H s (by rw [hD, r]))
  exact hs i x H _ hi s y fun H4 s4 => LcS.put nD (fun b o e => s4 b o (s b o e)) (s4 _ _ hD) hl (by omega) (by rw [r, List.replicate_succ', List.map_append]; rfl)
theorem all_true (n : Nat) : (List.replicate n true).all id = true := by
  induction n with
  | zero => rfl
  | succ n ih => rw [List.replicate_succ, List.all_cons, ih]; rfl
theorem iteC {c : Bool} {A B : Prop} (h : c = true) (a : A) : if c = true then A else B := by
  rw [if_pos h]
  exact a
theorem iteN {c : Bool} {A B : Prop} (h : c = false) (b : B) : if c = true then A else B := by
  rw [h]
  exact iteF b
theorem qT {Q : VK} {c : Bool} {H : Hp} (h : c = true) (q : Q (.bl true) H) : Q (.bl c) H := by
  rw [h]
  exact q
theorem qF {Q : VK} {c : Bool} {H : Hp} (h : c = false) (q : Q (.bl false) H) : Q (.bl c) H := by
  rw [h]
  exact q
theorem DtAll.nums_inv {H : Hp} : ∀ {xs : List Int} {vs : List V}, DtAll H (xs.map .num) vs → vs = xs.map V.int
  | [], _, h => h
  | x :: xs, _, h => by
    obtain ⟨v, r, rfl, h1, h2⟩ := h
    rw [show v = .int x from h1, DtAll.nums_inv h2]
    rfl
end Mw

/-! written_text, written_clash, written_where, written_item, written_items: of lines, of flat items. -/
namespace Mw
open PySem PySem.Spec PyProof.Rows L2
/-! ### what they tell -/
def wText (x : Str) : Str := Str.ofString (toString (x.length : Int)) ++ ":" ++ x
def wItems (xs : List Str) : Str := ("[" : Str) ++ Txt.join "" (xs.map wText) ++ "]"
def spWText : Sp := fun vs H Q _ => ∃ x : Str, vs = [.str x] ∧ x.length ≤ 1000 ∧ Q (.str (wText x)) H
/-- a where that is a path or None -/
def wWhere : NestedKey → Str
  | .text x => wText x
  | _ => "-"
def spWWhere : Sp := fun vs H Q _ => ∃ (k : NestedKey) (v : V), vs = [v] ∧ (k = .none ∨ ∃ x : Str, k = .text x ∧ x.length ≤ 1000) ∧ Dt H k v ∧ Q (.str (wWhere k)) H
def spWItem : Sp := fun vs H Q _ => ∃ x : Str, vs = [.str x] ∧ x.length ≤ 1000 ∧ Q (.str (wText x)) H
def spWItems : Sp := fun vs H Q _ => ∃ (xs : List Str) (v : V), vs = [v] ∧ Dt H (.tup (xs.map .text)) v ∧ xs.length ≤ 100 ∧ (∀ x ∈ xs, x.length ≤ 40) ∧ ∀ H', Same H H' → Q (.str (wItems xs)) H'
theorem log40 {n : Nat} (h : n ≤ 1000) : ((n : Int)).natAbs.log2 < 1920 := by
  have h1 : n.log2 ≤ n := Nat.log2_le_self n
  have e : ((n : Int)).natAbs = n := rfl
  rw [e]
  omega
theorem len_num {n : Nat} (h : n ≤ 1000) : (Str.ofString (toString (n : Int))).length ≤ 10 := by
  have key : ∀ m : Fin 1001, (Str.ofString (toString (m.val : Int))).length ≤ 10 := by decide +kernel
  exact key ⟨n, by omega⟩
theorem wText_len {x : Str} (h : x.length ≤ 1000) : (wText x).length ≤ x.length + 11 := by
  have := len_num h
  unfold wText
  rw [Str.length_append, Str.length_append]
  have e : (":" : Str).length = 1 := by decide +kernel
  omega
section
variable {P : Program} {w : World} {K : PySem.W.Frag} {mg : Str → Option Value} {base : Heap}
theorem ok_wtext (T : Tx K mg) : OkG P w K mg base CX0 1 "written_text" ["text"] spWText := by
  refine T.fWrittenText.ok scWrittenText (fun vs H Q E h => ?_) (fun cdv A outer s H vs Q E hr h => ?_)
  · obtain ⟨x, rfl, _⟩ := h
    rfl
  · obtain ⟨x, rfl, hx, k⟩ := h
    refine ⟨_, PSs.nox (pss_one (ps_ret (pe_op op_add_str (pe_op op_add_str (pe_callTy call_str_int (by rfl) T.b_str (by decide +kernel) (pa_cons (pe_callB call_len_str (by rfl) T.b_len PySem.boot_len (pa_cons (pv 0) pa_nil)) pa_nil)) pe_str) (pv 0)))), ?_⟩
    have := len_num hx
    have e1 : (":" : Str).length = 1 := by decide +kernel
    have hl : sizeLine = 16777216 := sizeLine_eq
    refine ⟨_, rfl, _, rfl, by omega, _, rfl, log40 hx, _, _, rfl, rfl, ?_, _, rfl, _, _, rfl, rfl, ?_, k⟩
    · show (Str.ofString _).length + _ ≤ _
      omega
    · rw [Str.length_append]
      omega
end
section
variable {P : Program} {w : World} {K : PySem.W.Frag} {mg : Str → Option Value} {base : Heap}
theorem ok_wwhere (T : Tx K mg) : OkG P w K mg base CX0 2 "written_where" ["where"] spWWhere := by
  refine T.fWrittenWhere.ok scWrittenWhere (fun vs H Q E h => ?_) (fun cdv A outer s H vs Q E hr h => ?_)
  · obtain ⟨k, v, rfl, _⟩ := h
    rfl
  · obtain ⟨k, v, rfl, hk, hd, q⟩ := h
    refine ⟨_, PSs.nox (pss_cons (ps_if (pt_cmpR op_isN (pv 0) pe_non (nomark _)) (pss_one (ps_ret pe_str)) pss_nil)
      (pss_cons (ps_if (pt_val (pe_callB call_isi (by rfl) T.b_isinstance (by decide +kernel) (pa_cons (pv 0) (pa_cons (pe_bltn (v := .ty "str") (by rfl) T.b_str (by decide +kernel) rfl) pa_nil))))
        (pss_one (ps_ret (pcall T.dWrittenText (ok_wtext T) hr pass0 (pa_cons (pv 0) pa_nil)))) pss_nil) (pss_one ps_never))), ?_⟩
    rcases hk with rfl | ⟨x, rfl, hx⟩
    · obtain rfl : v = .non := hd
      exact ⟨_, rfl, rfl, _, rfl, iteT q⟩
    · obtain rfl : v = .str x := hd
      refine ⟨_, rfl, rfl, _, rfl, iteF ?_⟩
      exact ⟨_, rfl, _, _, _, _, true, rfl, .ty _, .base (.str _), kit_ty (by decide +kernel), _, rfl, iteT ⟨_, rfl, x, rfl, hx, q⟩⟩
theorem ok_witem (T : Tx K mg) : OkG P w K mg base CX0 2 "written_item" ["item"] spWItem := by
  refine T.fWrittenItem.ok scWrittenItem (fun vs H Q E h => ?_) (fun cdv A outer s H vs Q E hr h => ?_)
  · obtain ⟨x, rfl, _⟩ := h
    rfl
  · obtain ⟨x, rfl, hx, q⟩ := h
    refine ⟨_, PSs.nox (pss_cons (ps_if (pt_val (pe_callB call_isi (by rfl) T.b_isinstance (by decide +kernel) (pa_cons (pv 0) (pa_cons (pe_bltn (v := .ty "str") (by rfl) T.b_str (by decide +kernel) rfl) pa_nil))))
        (pss_one (ps_ret (pcall T.dWrittenText (ok_wtext T) hr pass0 (pa_cons (pv 0) pa_nil)))) pss_nil) (pss_one ps_never)), ?_⟩
    exact ⟨_, rfl, _, _, _, _, true, rfl, .ty _, .base (.str _), kit_ty (by decide +kernel), _, rfl, iteT ⟨_, rfl, x, rfl, hx, q⟩⟩
theorem join_len {xs : List Str} {n m : Nat} (h1 : xs.length ≤ n) (h2 : ∀ x ∈ xs, x.length ≤ m) : (xs.map (·.length)).sum ≤ n * m := by
  induction xs generalizing n with
  | nil => simp
  | cons x xs ih =>
    cases n with
    | zero => simp at h1
    | succ n =>
      rw [List.map_cons, List.sum_cons, Nat.succ_mul]
      have a1 := ih (n := n) (by simpa using h1) (fun y hy => h2 y (List.mem_cons_of_mem _ hy))
      have a2 := h2 x List.mem_cons_self
      omega
theorem joined_len {xs : List Str} {n m : Nat} (h1 : xs.length ≤ n) (h2 : ∀ x ∈ xs, x.length ≤ m) : (Txt.join "" xs).length ≤ n * m := by
  have a := StrLaws.join_length_le "" xs
  have b := join_len h1 h2
  have e : ("" : Str).length = 0 := by decide +kernel
  show (Builtin.Str.glued "" xs).length ≤ _
  rw [StrLaws.glued_eq_join]
  rw [e] at a
  omega
theorem ok_witems (T : Tx K mg) : OkG P w K mg base CX0 3 "written_items" ["items"] spWItems := by
  refine T.fWrittenItems.ok scWrittenItems (fun vs H Q E h => ?_) (fun cdv A outer s H vs Q E hr h => ?_)
  · obtain ⟨xs, v, rfl, _⟩ := h
    rfl
  · obtain ⟨xs, v, rfl, hd, hn, hx, q⟩ := h
    obtain ⟨a, vs, rfl, ha, hv⟩ := hd
    obtain rfl := hv.texts_inv
    refine ⟨_, PSs.nox (pss_one (ps_ret (pe_op op_add_str (pe_op op_add_str pe_str (pe_join pe_str
      (pe_lc (own := [("item", 1)]) (g := gName 1) (tt := tYes) rfl scWrittenItems.nd (pi_tup (pv 0)) (blkOk_by (N := nWrittenItems) (sc := defScope sWrittenItems) (by decide +kernel)) (fun _ _ _ _ _ => pg_name (i := 1) scWrittenItems.nd rfl (Or.inl rfl)) (fun _ _ _ _ _ => pts_nil)
        (fun _ _ _ _ _ => pcall T.dWrittenItem (ok_witem T) hr pass0 (pa_cons (pv 1) pa_nil))))) pe_str))), ?_⟩
    have el : ∀ y ∈ xs.map wText, y.length ≤ 51 := fun y hy => by
      obtain ⟨x, hm, rfl⟩ := List.mem_map.mp hy
      have := wText_len (x := x) (by have := hx x hm; omega)
      have := hx x hm
      omega
    refine ⟨⟨_, rfl⟩, _, rfl, _, rfl, ⟨_, SqT.of ha⟩, fun D hD => lc_same (Wk.tup (SqT.of ha)) hD (fun i acc => acc = ((xs.take i).map fun x => V.str (wText x))) rfl ?_ ?_⟩
    · intro i v acc H1 hi hl hD1 s r hv
      rw [List.getElem?_map] at hv
      obtain ⟨x, hx1, rfl⟩ := Option.map_eq_some_iff.mp hv
      have hm := List.mem_of_getElem? hx1
      refine ⟨rfl, _, rfl, x, rfl, by have := hx x hm; omega, ?_⟩
      refine LcS.put hD s hD1 hl (by rw [sizeLine_eq]; simp at hi; omega) ?_
      rw [r, List.take_add_one, hx1]
      simp
    · intro acc H1 s r hD1
      have ea : acc = (xs.map wText).map V.str := by
        rw [r]
        simp
      rw [ea] at hD1
      refine ⟨_, D, xs.map wText, rfl, rfl, .inl (SqL.of hD1), ?_, ?_⟩
      · have := join_len (n := 100) (by simpa using hn) el
        have e : ("" : Str).length = 0 := by decide +kernel
        rw [e]
        omega
      · have := joined_len (n := 100) (by simpa using hn) el
        have e1 : ("[" : Str).length = 1 := by decide +kernel
        have e2 : ("]" : Str).length = 1 := by decide +kernel
        refine ⟨_, _, rfl, rfl, by rw [sizeLine_eq]; omega, _, _, rfl, rfl, by rw [Str.length_append, sizeLine_eq]; omega, q H1 s⟩
end
end Mw

/-! is_text_of, is_line, is_word, is_path, is_root, is_clash: of good things. -/
namespace Mw
open PySem PySem.Spec PyProof.Rows L2
def TextOf (x signs : Str) : Prop := ∀ c ∈ x.cps.toList, c ∈ signs.cps.toList
instance {x y : Str} : Decidable (TextOf x y) := by unfold TextOf; infer_instance
def smallS : Str := "abcdefghijklmnopqrstuvwxyz"
def figS : Str := "0123456789"
def GoodLine (x : Str) : Prop := x.length ≤ 40 ∧ ∀ c ∈ x.cps.toList, 32 ≤ c ∧ c ≤ 126 ∧ c ≠ 37
instance {x : Str} : Decidable (GoodLine x) := by unfold GoodLine; infer_instance
def GoodWord (x : Str) : Prop := TextOf x smallS ∧ 1 ≤ x.length ∧ x.length ≤ 8
instance {x : Str} : Decidable (GoodWord x) := by unfold GoodWord; infer_instance
def pathsL : List Str := ["a", "a/b", "c", "zz/zz/zz/zz", "ab"]
def rootsL : List Str := ["a.0", "a.1", "a.10", "a.2", "ab.7", "b.0", "b.999", "c.5", "c.50", "d.1", "e.0", "zz.1"]
def tru (sp : Hp → List V → Prop) : Sp := fun vs H Q _ => sp H vs ∧ ∀ H', Same H H' → Q (.bl true) H'
def spTextOf : Sp := tru fun _ vs => ∃ x signs : Str, vs = [.str x, .str signs] ∧ TextOf x signs ∧ x.length ≤ 1000
def spLine : Sp := tru fun _ vs => ∃ x : Str, vs = [.str x] ∧ GoodLine x
def spWord : Sp := tru fun _ vs => ∃ x : Str, vs = [.str x] ∧ GoodWord x
def spPath : Sp := tru fun _ vs => ∃ x : Str, vs = [.str x] ∧ x ∈ pathsL
def spRoot : Sp := tru fun _ vs => ∃ x : Str, vs = [.str x] ∧ x ∈ rootsL
theorem get_mem {x : Str} {i c : Nat} (h : x.cps[i]? = some c) : c ∈ x.cps.toList := by
  rw [← Array.getElem?_toList] at h
  exact List.mem_of_getElem? h
section
variable {P : Program} {w : World} {K : PySem.W.Frag} {mg : Str → Option Value} {base : Heap}
theorem ok_text_of (T : Tx K mg) : OkG P w K mg base CX0 1 "is_text_of" ["thing", "signs"] spTextOf := by
  refine T.fIsTextOf.ok scIsTextOf (fun vs H Q E h => ?_) (fun cdv A outer s H vs Q E hr h => ?_)
  · obtain ⟨⟨x, y, rfl, _⟩, _⟩ := h
    rfl
  · obtain ⟨⟨x, y, rfl, ht, hl⟩, q⟩ := h
    refine ⟨_, PSs.nox (pss_one (ps_ret (pe_and (pe_is .str (pv 0) T.b_isinstance T.b_str) (pe_one (pe_callB (cr_all rfl) (by rfl) T.b_all (by decide +kernel) (pa_cons
      (pe_lc (own := [("sign", 2)]) (g := gName 2) (tt := tYes) rfl scIsTextOf.nd (pi_str (pv 0)) (blkOk_by (N := nIsTextOf) (sc := defScope sIsTextOf) (by decide +kernel)) (fun _ _ _ _ _ => pg_name (i := 2) scIsTextOf.nd rfl (Or.inl rfl)) (fun _ _ _ _ _ => pts_nil)
        (fun _ _ _ _ _ => pe_cmpR op_in_sign (pv 2) (pv 1) rfl)) pa_nil)))))), ?_⟩
    refine ⟨_, rfl, _, _, rfl, .str _, _, rfl, iteT ⟨_, rfl, _, rfl, fun D hD => lc_true (Wk.str (z := x)) hD (by rw [sizeLine_eq]; show x.cps.size ≤ _; have : x.cps.size = x.length := rfl; omega) (fun i v H1 k hi s hv hk => ?_) (fun H1 s hD1 => ?_)⟩⟩
    · obtain ⟨c, hc, rfl⟩ := hv
      refine ⟨rfl, _, rfl, _, rfl, c, y, rfl, rfl, ?_⟩
      rw [decide_eq_true (ht c (get_mem hc))]
      exact hk _ (Same.refl _)
    · refine ⟨_, _, rfl, SqL.of hD1, ?_⟩
      rw [all_true]
      exact q _ s
theorem ok_line (T : Tx K mg) : OkG P w K mg base CX0 1 "is_line" ["thing"] spLine := by
  refine T.fIsLine.ok scIsLine (fun vs H Q E h => ?_) (fun cdv A outer s H vs Q E hr h => ?_)
  · obtain ⟨⟨x, rfl, _⟩, _⟩ := h
    rfl
  · obtain ⟨⟨x, rfl, hl, hg⟩, q⟩ := h
    obtain ⟨t, hm⟩ := T.i_MOST_SIGNS
    refine ⟨_, PSs.nox (pss_cons (ps_if (PW.pt (pw_or (pt_not (pt_val (pe_is .str (pv 0) T.b_isinstance T.b_str))) (pw_or1 (pt_cmpR op_gt (pe_callB call_len_str (by rfl) T.b_len PySem.boot_len (pa_cons (pv 0) pa_nil)) (pe_glob (v := .int 40) rfl hm ⟨_, rfl⟩) (nomark _)))))
        (pss_one (ps_ret pe_bl)) pss_nil)
      (pss_one (ps_ret (pe_callB (cr_all rfl) (by rfl) T.b_all (by decide +kernel) (pa_cons
      (pe_lc (own := [("sign", 1)]) (g := gName 1) (tt := tYes) rfl scIsLine.nd (pi_str (pv 0)) (blkOk_by (N := nIsLine) (sc := defScope sIsLine) (by decide +kernel)) (fun _ _ _ _ _ => pg_name (i := 1) scIsLine.nd rfl (Or.inl rfl)) (fun _ _ _ _ _ => pts_nil)
        (fun _ _ _ _ _ => pe_and (pe_chain op_le_str op_le_str pe_str (pv 1) pe_str) (pe_one (pe_cmpR op_ne (pe_callB call_ord (by rfl) T.b_ord (by decide +kernel) (pa_cons (pv 1) pa_nil)) pe_int (nomark _))))) pa_nil))))), ?_⟩
    refine ⟨_, rfl, _, _, rfl, .str _, _, rfl, iteF ⟨_, rfl, _, rfl, by rw [sizeLine_eq]; omega, _, _, rfl, rfl, _, rfl, ?_⟩⟩
    rw [decide_eq_false (by omega : ¬ ((40 : Int) < (x.length : Int)))]
    refine iteF ⟨_, rfl, _, rfl, fun D hD => lc_true (Wk.str (z := x)) hD (by rw [sizeLine_eq]; show x.cps.size ≤ _; have : x.cps.size = x.length := rfl; omega) (fun i v H1 k hi s hv hk => ?_) (fun H1 s hD1 => ?_)⟩
    · obtain ⟨c, hc, rfl⟩ := hv
      obtain ⟨g1, g2, g3⟩ := hg c (get_mem hc)
      have e1 : decide ((⟨#[c]⟩ : Str).cps.toList < (" " : Str).cps.toList) = false := by
        refine decide_eq_false ?_
        show ¬ ([c] < [32])
        intro z
        rcases List.cons_lt_cons_iff.mp z with z | z
        · omega
        · exact absurd z.2 (by simp)
      have e2 : decide (("~" : Str).cps.toList < (⟨#[c]⟩ : Str).cps.toList) = false := by
        refine decide_eq_false ?_
        show ¬ ([126] < [c])
        intro z
        rcases List.cons_lt_cons_iff.mp z with z | z
        · omega
        · exact absurd z.2 (by simp)
      refine ⟨rfl, _, rfl, _, _, rfl, rfl, ?_⟩
      rw [e1]
      refine ⟨_, rfl, iteT ⟨_, _, rfl, rfl, ?_⟩⟩
      rw [e2]
      refine ⟨_, rfl, iteT ⟨_, rfl, _, rfl, rfl, rfl, ?_⟩⟩
      have e3 : decide (V.int (((⟨#[c]⟩ : Str).cps.getD 0 0 : Nat)) = V.int 37) = false := by
        refine decide_eq_false ?_
        intro z
        have z2 : ((c : Nat) : Int) = 37 := by injection z
        omega
      rw [e3]
      exact hk _ (Same.refl _)
    · refine ⟨_, _, rfl, SqL.of hD1, ?_⟩
      rw [all_true]
      exact q _ s
theorem ok_word (T : Tx K mg) : OkG P w K mg base CX0 2 "is_word" ["thing"] spWord := by
  refine T.fIsWord.ok scIsWord (fun vs H Q E h => ?_) (fun cdv A outer s H vs Q E hr h => ?_)
  · obtain ⟨⟨x, rfl, _⟩, _⟩ := h
    rfl
  · obtain ⟨⟨x, rfl, ht, h1, h8⟩, q⟩ := h
    obtain ⟨t, hm⟩ := T.i_MOST_LETTERS
    obtain ⟨t2, hs⟩ := T.s_SMALL
    refine ⟨_, PSs.nox (pss_one (ps_ret (pe_and (pcall T.dIsTextOf (ok_text_of T) hr pass0 (pa_cons (pv 0) (pa_cons (pe_glob (v := .str smallS) rfl hs ⟨_, rfl⟩) pa_nil)))
      (pe_one (pe_chain op_le op_le pe_int (pe_callB call_len_str (by rfl) T.b_len PySem.boot_len (pa_cons (pv 0) pa_nil)) (pe_glob (v := .int 8) rfl hm ⟨_, rfl⟩)))))), ?_⟩
    refine ⟨_, rfl, ⟨x, _, rfl, ht, by omega⟩, fun H1 s => ⟨_, rfl, iteT ⟨_, rfl, _, rfl, by rw [sizeLine_eq]; omega, _, _, rfl, rfl, ?_⟩⟩⟩
    exact ⟨_, rfl, iteC (decide_eq_true (by omega)) ⟨_, _, rfl, rfl, qT (decide_eq_true (by omega)) (q _ s)⟩⟩
theorem paths_split : ∀ x ∈ pathsL, x.length ≤ 40 ∧ (Txt.split x "/").length ≤ 4 ∧ ∀ y ∈ Txt.split x "/", GoodWord y := by decide +kernel
theorem roots_part : ∀ x ∈ rootsL, x.length ≤ 40 ∧ GoodWord (Txt.partition x ".").1 ∧ TextOf (Txt.partition x ".").2.2 figS ∧ 1 ≤ (Txt.partition x ".").2.2.length ∧ (Txt.partition x ".").2.2.length ≤ 3 ∧ ((Txt.partition x ".").2.2 = "0" ∨ Txt.startswith (Txt.partition x ".").2.2 "0" = false) := by decide +kernel
theorem ok_path (T : Tx K mg) : OkG P w K mg base CX0 3 "is_path" ["thing"] spPath := by
  refine T.fIsPath.ok scIsPath (fun vs H Q E h => ?_) (fun cdv A outer s H vs Q E hr h => ?_)
  · obtain ⟨⟨x, rfl, _⟩, _⟩ := h
    rfl
  · obtain ⟨⟨x, rfl, hx⟩, q⟩ := h
    obtain ⟨hl, h4, hw⟩ := paths_split x hx
    obtain ⟨t, hm⟩ := T.i_MOST_WORDS
    refine ⟨_, PSs.nox (pss_cons (ps_if (pt_not (pt_val (pe_is .str (pv 0) T.b_isinstance T.b_str))) (pss_one (ps_ret pe_bl)) pss_nil)
      (pss_cons (ps_set (i := 1) scIsPath.nd rfl (Or.inl rfl) (pe_split (pv 0) pe_str))
      (pss_one (ps_ret (pe_and (pe_cmpR op_le (pe_callB call_len_seq (by rfl) T.b_len PySem.boot_len (pa_cons (pv 1) pa_nil)) (pe_glob (v := .int 4) rfl hm ⟨_, rfl⟩) (nomark _)) (pe_one (pe_callB (cr_all rfl) (by rfl) T.b_all (by decide +kernel) (pa_cons
      (pe_lc (own := [("word", 2)]) (g := gName 2) (tt := tYes) rfl scIsPath.nd (pi_list (pv 1)) (blkOk_by (N := nIsPath) (sc := defScope sIsPath) (by decide +kernel)) (fun _ _ _ _ _ => pg_name (i := 2) scIsPath.nd rfl (Or.inl rfl)) (fun _ _ _ _ _ => pts_nil)
        (fun _ _ _ _ _ => pcall T.dIsWord (ok_word T) hr pass0 (pa_cons (pv 2) pa_nil))) pa_nil)))))))), ?_⟩
    refine ⟨_, rfl, _, _, rfl, .str _, _, rfl, iteF ⟨_, rfl, ⟨_, rfl⟩, _, _, rfl, rfl, by decide +kernel, by rw [sizeLine_eq]; omega, fun p np => ?_⟩⟩
    have s1 := Same.new (o := .lst ((Txt.split x "/").map V.str)) np
    have hp : (upd H p (.lst ((Txt.split x "/").map V.str))) p = _ := upd_same
    refine ⟨_, rfl, _, _, rfl, .inl (SqL.of hp), _, _, rfl, rfl, _, rfl, iteC (decide_eq_true (by rw [List.length_map]; omega)) ?_⟩
    refine ⟨_, rfl, _, rfl, ⟨_, SqL.of hp⟩, fun D hD => lc_true (Wk.list (SqL.of hp) (by simp)) hD (by rw [sizeLine_eq, List.length_map]; omega) (fun i v H2 k hi s hv hk => ?_) (fun H2 s hD1 => ?_)⟩
    · rw [List.getElem?_map] at hv
      obtain ⟨y, hy, rfl⟩ := Option.map_eq_some_iff.mp hv
      exact ⟨rfl, _, rfl, ⟨y, rfl, hw y (List.mem_of_getElem? hy)⟩, hk⟩
    · exact ⟨_, _, rfl, SqL.of hD1, qT (all_true _) (q _ (s1.trans s))⟩
theorem ok_root (T : Tx K mg) : OkG P w K mg base CX0 3 "is_root" ["thing"] spRoot := by
  refine T.fIsRoot.ok scIsRoot (fun vs H Q E h => ?_) (fun cdv A outer s H vs Q E hr h => ?_)
  · obtain ⟨⟨x, rfl, _⟩, _⟩ := h
    rfl
  · obtain ⟨⟨x, rfl, hx⟩, q⟩ := h
    obtain ⟨hl, h1, h2, h3, h4, h5⟩ := roots_part x hx
    obtain ⟨t, hm⟩ := T.i_MOST_FIGURES
    obtain ⟨t2, hs⟩ := T.s_FIGURES
    refine ⟨_, PSs.nox (pss_cons (ps_if (pt_not (pt_val (pe_is .str (pv 0) T.b_isinstance T.b_str))) (pss_one (ps_ret pe_bl)) pss_nil)
      (pss_cons (ps_asg (pe_partition (pv 0) pe_str) (pg_tup rfl (pgs_cons (pg_name (i := 1) scIsRoot.nd rfl (Or.inl rfl)) (pgs_cons (pg_name (i := 2) scIsRoot.nd rfl (Or.inl rfl)) (pgs_cons (pg_name (i := 3) scIsRoot.nd rfl (Or.inl rfl)) pgs_nil)))))
      (pss_cons (ps_if (PW.pt (pw_or (pt_not (pt_val (pcall T.dIsWord (ok_word T) hr pass0 (pa_cons (pv 1) pa_nil)))) (pw_or (pt_not (pt_val (pcall T.dIsTextOf (ok_text_of T) (hr.mono (by decide)) pass0 (pa_cons (pv 3) (pa_cons (pe_glob (v := .str figS) rfl hs ⟨_, rfl⟩) pa_nil)))))
          (pw_or1 (pt_not (pt_chain op_le op_le pe_int (pe_callB call_len_str (by rfl) T.b_len PySem.boot_len (pa_cons (pv 3) pa_nil)) (pe_glob (v := .int 3) rfl hm ⟨_, rfl⟩)))))))
        (pss_one (ps_ret pe_bl)) pss_nil)
      (pss_one (ps_ret (pe_or (pe_cmpR op_eq (pv 3) pe_str (nomark _)) (pe_one (pe_not (pe_m1 PySem.F.slot_str_startswith PySem.F.type_str_startswith mt_startswith (pv 3) pe_str))))))))), ?_⟩
    refine ⟨_, rfl, _, _, rfl, .str _, _, rfl, iteF ⟨_, rfl, ⟨_, rfl⟩, _, _, rfl, rfl, by decide +kernel, by rw [sizeLine_eq]; omega, fun p np => ?_⟩⟩
    have s1 := Same.new (o := .tup [.str (Txt.partition x ".").1, .str (Txt.partition x ".").2.1, .str (Txt.partition x ".").2.2]) np
    refine ⟨_, _, rfl, SqT.of upd_same, rfl, _, _, rfl, _, _, rfl, _, _, rfl, rfl, ?_⟩
    refine ⟨_, rfl, ⟨_, rfl, h1⟩, fun H2 s2 => ⟨_, rfl, iteF ⟨_, rfl, ⟨_, _, rfl, h2, by omega⟩, fun H3 s3 => ⟨_, rfl, iteF ⟨_, rfl, _, rfl, by rw [sizeLine_eq]; omega, _, _, rfl, rfl, _, rfl, iteC (decide_eq_true (by omega)) ⟨_, _, rfl, rfl, _, rfl, ?_⟩⟩⟩⟩⟩⟩
    rw [decide_eq_true (by omega : (((Txt.partition x ".").2.2.length : Int) ≤ 3))]
    refine iteF ⟨_, rfl, rfl, _, rfl, ?_⟩
    have s := (s1.trans s2).trans s3
    rcases h5 with e | e
    · exact iteC (decide_eq_true (by rw [e])) (q _ s)
    · by_cases e0 : (Txt.partition x ".").2.2 = "0"
      · exact iteC (decide_eq_true (by rw [e0])) (q _ s)
      · refine iteN (decide_eq_false (fun z => e0 (by injection z))) ⟨_, rfl, ⟨_, rfl⟩, _, _, rfl, rfl, _, rfl, ?_⟩
        exact qT (by rw [e]; rfl) (q _ s)
end
end Mw

/-! is_clash, is_item, is_items, is_place, is_where, is_row, is_stand: of good things. -/
namespace Mw
open PySem PySem.Spec PyProof.Rows L2
def flatK (xs : List Str) : NestedKey := .tup (xs.map .text)
def GoodParts (xs : List Str) : Prop := xs.length ≤ 3 ∧ ∀ x ∈ xs, GoodLine x
def clashK (b p q : NestedKey) : NestedKey := .tup [.text "clash", b, .tup [p, q]]
def Lt (x y : Str) : Prop := x.cps.toList < y.cps.toList
def GoodItem (k : NestedKey) : Prop := (∃ x, k = .text x ∧ GoodLine x) ∨ ∃ b p q, k = clashK (flatK b) (flatK p) (flatK q) ∧ GoodParts b ∧ GoodParts p ∧ GoodParts q ∧ Lt (wItems p) (wItems q)
def GoodItems (ks : List NestedKey) : Prop := ks.length ≤ 3 ∧ ∀ k ∈ ks, GoodItem k
def GoodPlace (k : NestedKey) : Prop := k = .none ∨ ∃ x, k = .text x ∧ x ∈ pathsL
def GoodWhere (k : NestedKey) : Prop := (∃ x, k = .text x ∧ x ∈ pathsL) ∨ ∃ b p q, k = clashK b p q ∧ GoodPlace b ∧ GoodPlace p ∧ GoodPlace q ∧ Lt (wWhere p) (wWhere q)
def rowK (r : Str × NestedKey × List NestedKey) : NestedKey := .tup [.text r.1, r.2.1, .tup r.2.2]
def GoodRows (rs : List (Str × NestedKey × List NestedKey)) : Prop := (rs.map (·.1)).Sublist rootsL ∧ ∀ r ∈ rs, GoodWhere r.2.1 ∧ GoodItems r.2.2
def GoodStand (k : NestedKey) : Prop := ∃ rs, k = .tup (rs.map rowK) ∧ GoodRows rs
/-! promises -/
def spClash : Sp := fun vs H Q _ => (∃ x : Str, vs = [.str x] ∧ Q (.bl false) H) ∨ (vs = [.non] ∧ Q (.bl false) H) ∨ ∃ a b t x y, vs = [.ref a] ∧ H a = some (.tup [.str "clash", b, .ref t]) ∧ H t = some (.tup [x, y]) ∧ Q (.bl true) H
def dat (G : NestedKey → Prop) : Sp := tru fun H vs => ∃ k v, vs = [v] ∧ Dt H k v ∧ G k
section
variable {P : Program} {w : World} {K : PySem.W.Frag} {mg : Str → Option Value} {base : Heap}
theorem ok_clash (T : Tx K mg) : OkG P w K mg base CX0 1 "is_clash" ["thing"] spClash := by
  refine T.fIsClash.ok scIsClash (fun vs H Q E h => ?_) (fun cdv A outer s H vs Q E hr h => ?_)
  · rcases h with ⟨x, rfl, _⟩ | ⟨rfl, _⟩ | ⟨a, b, t, x, y, rfl, _⟩ <;> rfl
  · refine ⟨_, PSs.nox (pss_cons (ps_if (PW.pt (pw_or (pt_not (pt_val (pe_is .tup (pv 0) T.b_isinstance T.b_tuple))) (pw_or (pt_cmpR op_ne (pe_callB call_len_seq (by rfl) T.b_len PySem.boot_len (pa_cons (pv 0) pa_nil)) pe_int (nomark _))
        (pw_or1 (pt_cmpR op_ne (pe_ix ix_tup (pv 0) pe_int (fun _ _ => rfl)) pe_str (nomark _)))))) (pss_one (ps_ret pe_bl)) pss_nil)
      (pss_one (ps_ret (pe_and (pe_is .tup (pe_ix ix_tup (pv 0) pe_int (fun _ _ => rfl)) T.b_isinstance T.b_tuple) (pe_one (pe_cmpR op_eq (pe_callB call_len_seq (by rfl) T.b_len PySem.boot_len (pa_cons (pe_ix ix_tup (pv 0) pe_int (fun _ _ => rfl)) pa_nil)) pe_int (nomark _))))))), ?_⟩
    rcases h with ⟨x, rfl, q⟩ | ⟨rfl, q⟩ | ⟨a, b, t, x, y, rfl, ha, ht, q⟩
    · exact ⟨_, rfl, _, _, rfl, .str _, _, rfl, iteT q⟩
    · exact ⟨_, rfl, _, _, rfl, .non, _, rfl, iteT q⟩
    · refine ⟨_, rfl, _, _, rfl, .tup ha, _, rfl, iteF ⟨_, rfl, _, _, rfl, .inr (SqT.of ha), rfl, _, rfl, iteF ?_⟩⟩
      refine ⟨_, rfl, _, _, _, _, rfl, rfl, SqT.of ha, atI_nat (j := 0) rfl, rfl, _, rfl, ?_⟩
      refine iteN (by simp) ⟨_, rfl, _, _, _, _, rfl, rfl, SqT.of ha, atI_nat (j := 2) rfl, _, _, rfl, .tup ht, _, rfl, iteT ?_⟩
      exact ⟨_, rfl, _, _, _, _, rfl, rfl, SqT.of ha, atI_nat (j := 2) rfl, _, _, rfl, .inr (SqT.of ht), rfl, q⟩
/-- an item that is a line -/
theorem ok_item0 (T : Tx K mg) : OkG P w K mg base CX0 2 "is_item" ["thing"] spLine := by
  refine T.fIsItem.ok scIsItem (fun vs H Q E h => ?_) (fun cdv A outer s H vs Q E hr h => ?_)
  · obtain ⟨⟨x, rfl, _⟩, _⟩ := h
    rfl
  · obtain ⟨⟨x, rfl, hx⟩, q⟩ := h
    refine ⟨_, PSs.nox (pss_cons (ps_if (pt_not (pt_val (pcall T.dIsClash (ok_clash T) hr pass0 (pa_cons (pv 0) pa_nil)))) (pss_one (ps_ret (pcall T.dIsLine (ok_line T) hr pass0 (pa_cons (pv 0) pa_nil)))) pss_nil)
      (pss_cons ps_never (pss_cons ps_never (pss_one ps_never)))), ?_⟩
    exact ⟨_, rfl, .inl ⟨x, rfl, _, rfl, iteT ⟨_, rfl, ⟨x, rfl, hx⟩, q⟩⟩⟩
theorem ok_items0 (T : Tx K mg) : OkG P w K mg base CX0 3 "is_items" ["thing"] (dat fun k => ∃ xs, k = flatK xs ∧ GoodParts xs) := by
  refine T.fIsItems.ok scIsItems (fun vs H Q E h => ?_) (fun cdv A outer s H vs Q E hr h => ?_)
  · obtain ⟨⟨k, x, rfl, _⟩, _⟩ := h
    rfl
  · obtain ⟨⟨k, x, rfl, hd, xs, rfl, hl, hg⟩, q⟩ := h
    obtain ⟨a, vs, rfl, ha, hv⟩ := hd
    obtain rfl := hv.texts_inv
    refine ⟨_, PSs.nox (pss_one (ps_ret (pe_and (pe_is .tup (pv 0) T.b_isinstance T.b_tuple) (pe_one (pe_callB (cr_all rfl) (by rfl) T.b_all (by decide +kernel) (pa_cons
      (pe_lc (own := [("item", 1)]) (g := gName 1) (tt := tYes) rfl scIsItems.nd (pi_tup (pv 0)) (blkOk_by (N := nIsItems) (sc := defScope sIsItems) (by decide +kernel)) (fun _ _ _ _ _ => pg_name (i := 1) scIsItems.nd rfl (Or.inl rfl)) (fun _ _ _ _ _ => pts_nil)
        (fun _ _ _ _ _ => pcall T.dIsItem (ok_item0 T) hr pass0 (pa_cons (pv 1) pa_nil))) pa_nil)))))), ?_⟩
    refine ⟨_, rfl, _, _, rfl, .tup ha, _, rfl, iteT ⟨_, rfl, _, rfl, ⟨_, SqT.of ha⟩, fun D hD => lc_true (Wk.tup (SqT.of ha)) hD (by rw [sizeLine_eq, List.length_map]; omega) (fun i v H1 k hi s hv hk => ?_) (fun H1 s hD1 => ?_)⟩⟩
    · rw [List.getElem?_map] at hv
      obtain ⟨y, hy, rfl⟩ := Option.map_eq_some_iff.mp hv
      exact ⟨rfl, _, rfl, ⟨y, rfl, hg y (List.mem_of_getElem? hy)⟩, hk⟩
    · exact ⟨_, _, rfl, SqL.of hD1, qT (all_true _) (q _ s)⟩
/-- an item that is a line, or a clash of lines -/
theorem ok_item1 (T : Tx K mg) : OkG P w K mg base CX0 4 "is_item" ["thing"] (dat GoodItem) := by
  refine T.fIsItem.ok scIsItem (fun vs H Q E h => ?_) (fun cdv A outer s H vs Q E hr h => ?_)
  · obtain ⟨⟨k, x, rfl, _⟩, _⟩ := h
    rfl
  · obtain ⟨⟨k, x, rfl, hd, hg⟩, q⟩ := h
    have cI : ∀ {e : Expr}, True := fun {_} => True.intro
    refine ⟨_, PSs.nox (pss_cons (ps_if (pt_not (pt_val (pcall T.dIsClash (ok_clash T) (hr.mono (by decide)) pass0 (pa_cons (pv 0) pa_nil)))) (pss_one (ps_ret (pcall T.dIsLine (ok_line T) (hr.mono (by decide)) pass0 (pa_cons (pv 0) pa_nil)))) pss_nil)
      (pss_cons (ps_asg (pe_ix ix_tup (pv 0) pe_int (fun _ _ => rfl)) (pg_tup rfl (pgs_cons (pg_name (i := 1) scIsItem.nd rfl (Or.inl rfl)) (pgs_cons (pg_name (i := 2) scIsItem.nd rfl (Or.inl rfl)) pgs_nil))))
      (pss_cons (ps_if (PW.pt (pw_or (pt_not (pt_val (pcall T.dIsItems (ok_items0 T) hr pass0 (pa_cons (pe_ix ix_tup (pv 0) pe_int (fun _ _ => rfl)) pa_nil))))
          (pw_or (pt_not (pt_val (pcall T.dIsItems (ok_items0 T) hr pass0 (pa_cons (pv 1) pa_nil)))) (pw_or1 (pt_not (pt_val (pcall T.dIsItems (ok_items0 T) hr pass0 (pa_cons (pv 2) pa_nil))))))))
        (pss_one (ps_ret pe_bl)) pss_nil)
      (pss_one (ps_ret (pe_cmpR op_lt_str (pcall T.dWrittenItems (ok_witems T) hr pass0 (pa_cons (pv 1) pa_nil)) (pcall T.dWrittenItems (ok_witems T) hr pass0 (pa_cons (pv 2) pa_nil)) (nomark _))))))), ?_⟩
    rcases hg with ⟨y, rfl, gl⟩ | ⟨b, p1, p2, rfl, gb, g1, g2, glt⟩
    · obtain rfl : x = .str y := hd
      exact ⟨_, rfl, .inl ⟨y, rfl, _, rfl, iteT ⟨_, rfl, ⟨y, rfl, gl⟩, q⟩⟩⟩
    · obtain ⟨a, vs, rfl, ha, hv⟩ := hd
      obtain ⟨_, _, rfl, rfl, vb, _, rfl, db, vt, _, rfl, ⟨t, _, rfl, ht, x1, _, rfl, d1, x2, _, rfl, d2, rfl⟩, rfl⟩ := hv
      refine ⟨_, rfl, .inr (.inr ⟨_, _, _, _, _, rfl, ha, ht, _, rfl, iteF ?_⟩)⟩
      refine ⟨_, rfl, _, _, _, _, rfl, rfl, SqT.of ha, atI_nat (j := 2) rfl, _, _, rfl, SqT.of ht, rfl, _, _, rfl, _, _, rfl, rfl, ?_⟩
      refine ⟨_, rfl, _, _, _, _, rfl, rfl, SqT.of ha, atI_nat (j := 1) rfl, ⟨_, _, rfl, db, b, rfl, gb⟩, fun H1 s1 => ⟨_, rfl, iteF ?_⟩⟩
      refine ⟨_, rfl, ⟨_, _, rfl, d1.same s1, p1, rfl, g1⟩, fun H2 s2 => ⟨_, rfl, iteF ?_⟩⟩
      refine ⟨_, rfl, ⟨_, _, rfl, (d2.same s1).same s2, p2, rfl, g2⟩, fun H3 s3 => ⟨_, rfl, iteF ?_⟩⟩
      refine ⟨_, rfl, p1, _, rfl, ((d1.same s1).same s2).same s3, by have := g1.1; omega, fun x hx => (g1.2 x hx).1, fun H4 s4 => ?_⟩
      refine ⟨_, rfl, p2, _, rfl, (((d2.same s1).same s2).same s3).same s4, by have := g2.1; omega, fun x hx => (g2.2 x hx).1, fun H5 s5 => ?_⟩
      exact ⟨_, _, rfl, rfl, qT (decide_eq_true glt) (q _ ((((s1.trans s2).trans s3).trans s4).trans s5))⟩
theorem ok_items1 (T : Tx K mg) : OkG P w K mg base CX0 5 "is_items" ["thing"] (dat fun k => ∃ ks, k = .tup ks ∧ GoodItems ks) := by
  refine T.fIsItems.ok scIsItems (fun vs H Q E h => ?_) (fun cdv A outer s H vs Q E hr h => ?_)
  · obtain ⟨⟨k, x, rfl, _⟩, _⟩ := h
    rfl
  · obtain ⟨⟨k, x, rfl, hd, ks, rfl, hl, hg⟩, q⟩ := h
    obtain ⟨a, vs, rfl, ha, hv⟩ := hd
    have hn := hv.length
    refine ⟨_, PSs.nox (pss_one (ps_ret (pe_and (pe_is .tup (pv 0) T.b_isinstance T.b_tuple) (pe_one (pe_callB (cr_all rfl) (by rfl) T.b_all (by decide +kernel) (pa_cons
      (pe_lc (own := [("item", 1)]) (g := gName 1) (tt := tYes) rfl scIsItems.nd (pi_tup (pv 0)) (blkOk_by (N := nIsItems) (sc := defScope sIsItems) (by decide +kernel)) (fun _ _ _ _ _ => pg_name (i := 1) scIsItems.nd rfl (Or.inl rfl)) (fun _ _ _ _ _ => pts_nil)
        (fun _ _ _ _ _ => pcall T.dIsItem (ok_item1 T) hr pass0 (pa_cons (pv 1) pa_nil))) pa_nil)))))), ?_⟩
    refine ⟨_, rfl, _, _, rfl, .tup ha, _, rfl, iteT ⟨_, rfl, _, rfl, ⟨_, SqT.of ha⟩, fun D hD => lc_true (Wk.tup (SqT.of ha)) hD (by rw [sizeLine_eq]; omega) (fun i v H1 k hi s hw hk => ?_) (fun H1 s hD1 => ?_)⟩⟩
    · obtain ⟨d, hd1, hd2⟩ := hv.get hw
      exact ⟨rfl, _, rfl, ⟨d, _, rfl, hd2.same s, hg d (List.mem_of_getElem? hd1)⟩, hk⟩
    · exact ⟨_, _, rfl, SqL.of hD1, qT (all_true _) (q _ s)⟩
theorem ok_where0 (T : Tx K mg) : OkG P w K mg base CX0 4 "is_where" ["thing"] spPath := by
  refine T.fIsWhere.ok scIsWhere (fun vs H Q E h => ?_) (fun cdv A outer s H vs Q E hr h => ?_)
  · obtain ⟨⟨x, rfl, _⟩, _⟩ := h
    rfl
  · obtain ⟨⟨x, rfl, hx⟩, q⟩ := h
    refine ⟨_, PSs.nox (pss_cons (ps_if (pt_not (pt_val (pcall T.dIsClash (ok_clash T) (hr.mono (by decide)) pass0 (pa_cons (pv 0) pa_nil)))) (pss_one (ps_ret (pcall T.dIsPath (ok_path T) hr pass0 (pa_cons (pv 0) pa_nil)))) pss_nil)
      (pss_cons ps_never (pss_cons ps_never (pss_one ps_never)))), ?_⟩
    exact ⟨_, rfl, .inl ⟨x, rfl, _, rfl, iteT ⟨_, rfl, ⟨x, rfl, hx⟩, q⟩⟩⟩
theorem ok_place0 (T : Tx K mg) : OkG P w K mg base CX0 5 "is_place" ["thing"] (dat GoodPlace) := by
  refine T.fIsPlace.ok scIsPlace (fun vs H Q E h => ?_) (fun cdv A outer s H vs Q E hr h => ?_)
  · obtain ⟨⟨k, x, rfl, _⟩, _⟩ := h
    rfl
  · obtain ⟨⟨k, x, rfl, hd, hg⟩, q⟩ := h
    refine ⟨_, PSs.nox (pss_one (ps_ret (pe_or (pe_cmpR op_isN (pv 0) pe_non (nomark _)) (pe_one (pcall T.dIsWhere (ok_where0 T) hr pass0 (pa_cons (pv 0) pa_nil)))))), ?_⟩
    rcases hg with rfl | ⟨y, rfl, hy⟩
    · obtain rfl : x = .non := hd
      exact ⟨_, rfl, rfl, _, rfl, iteT (q _ (Same.refl _))⟩
    · obtain rfl : x = .str y := hd
      exact ⟨_, rfl, rfl, _, rfl, iteN (by simp) ⟨_, rfl, ⟨y, rfl, hy⟩, q⟩⟩
theorem GoodPlace.wr {k : NestedKey} (h : GoodPlace k) : k = .none ∨ ∃ x : Str, k = .text x ∧ x.length ≤ 1000 := h.imp id fun ⟨x, e, hx⟩ => ⟨x, e, by have := (paths_split x hx).1; omega⟩
theorem ok_where1 (T : Tx K mg) : OkG P w K mg base CX0 6 "is_where" ["thing"] (dat GoodWhere) := by
  refine T.fIsWhere.ok scIsWhere (fun vs H Q E h => ?_) (fun cdv A outer s H vs Q E hr h => ?_)
  · obtain ⟨⟨k, x, rfl, _⟩, _⟩ := h
    rfl
  · obtain ⟨⟨k, x, rfl, hd, hg⟩, q⟩ := h
    refine ⟨_, PSs.nox (pss_cons (ps_if (pt_not (pt_val (pcall T.dIsClash (ok_clash T) (hr.mono (by decide)) pass0 (pa_cons (pv 0) pa_nil)))) (pss_one (ps_ret (pcall T.dIsPath (ok_path T) (hr.mono (by decide)) pass0 (pa_cons (pv 0) pa_nil)))) pss_nil)
      (pss_cons (ps_asg (pe_ix ix_tup (pv 0) pe_int (fun _ _ => rfl)) (pg_tup rfl (pgs_cons (pg_name (i := 1) scIsWhere.nd rfl (Or.inl rfl)) (pgs_cons (pg_name (i := 2) scIsWhere.nd rfl (Or.inl rfl)) pgs_nil))))
      (pss_cons (ps_if (PW.pt (pw_or (pt_not (pt_val (pcall T.dIsPlace (ok_place0 T) hr pass0 (pa_cons (pe_ix ix_tup (pv 0) pe_int (fun _ _ => rfl)) pa_nil))))
          (pw_or (pt_not (pt_val (pcall T.dIsPlace (ok_place0 T) hr pass0 (pa_cons (pv 1) pa_nil)))) (pw_or1 (pt_not (pt_val (pcall T.dIsPlace (ok_place0 T) hr pass0 (pa_cons (pv 2) pa_nil))))))))
        (pss_one (ps_ret pe_bl)) pss_nil)
      (pss_one (ps_ret (pe_cmpR op_lt_str (pcall T.dWrittenWhere (ok_wwhere T) (hr.mono (by decide)) pass0 (pa_cons (pv 1) pa_nil)) (pcall T.dWrittenWhere (ok_wwhere T) (hr.mono (by decide)) pass0 (pa_cons (pv 2) pa_nil)) (nomark _))))))), ?_⟩
    rcases hg with ⟨y, rfl, gl⟩ | ⟨b, p1, p2, rfl, gb, g1, g2, glt⟩
    · obtain rfl : x = .str y := hd
      exact ⟨_, rfl, .inl ⟨y, rfl, _, rfl, iteT ⟨_, rfl, ⟨y, rfl, gl⟩, q⟩⟩⟩
    · obtain ⟨a, vs, rfl, ha, hv⟩ := hd
      obtain ⟨_, _, rfl, rfl, vb, _, rfl, db, vt, _, rfl, ⟨t, _, rfl, ht, x1, _, rfl, d1, x2, _, rfl, d2, rfl⟩, rfl⟩ := hv
      refine ⟨_, rfl, .inr (.inr ⟨_, _, _, _, _, rfl, ha, ht, _, rfl, iteF ?_⟩)⟩
      refine ⟨_, rfl, _, _, _, _, rfl, rfl, SqT.of ha, atI_nat (j := 2) rfl, _, _, rfl, SqT.of ht, rfl, _, _, rfl, _, _, rfl, rfl, ?_⟩
      refine ⟨_, rfl, _, _, _, _, rfl, rfl, SqT.of ha, atI_nat (j := 1) rfl, ⟨_, _, rfl, db, gb⟩, fun H1 s1 => ⟨_, rfl, iteF ?_⟩⟩
      refine ⟨_, rfl, ⟨_, _, rfl, d1.same s1, g1⟩, fun H2 s2 => ⟨_, rfl, iteF ?_⟩⟩
      refine ⟨_, rfl, ⟨_, _, rfl, (d2.same s1).same s2, g2⟩, fun H3 s3 => ⟨_, rfl, iteF ?_⟩⟩
      refine ⟨_, rfl, p1, _, rfl, g1.wr, ((d1.same s1).same s2).same s3, ?_⟩
      refine ⟨_, rfl, p2, _, rfl, g2.wr, ((d2.same s1).same s2).same s3, ?_⟩
      exact ⟨_, _, rfl, rfl, qT (decide_eq_true glt) (q _ ((s1.trans s2).trans s3))⟩
theorem ok_row (T : Tx K mg) : OkG P w K mg base CX0 7 "is_row" ["thing"] (dat fun k => ∃ r, k = rowK r ∧ r.1 ∈ rootsL ∧ GoodWhere r.2.1 ∧ GoodItems r.2.2) := by
  refine T.fIsRow.ok scIsRow (fun vs H Q E h => ?_) (fun cdv A outer s H vs Q E hr h => ?_)
  · obtain ⟨⟨k, x, rfl, _⟩, _⟩ := h
    rfl
  · obtain ⟨⟨k, x, rfl, hd, r, rfl, g1, g2, g3⟩, q⟩ := h
    obtain ⟨a, vs, rfl, ha, hv⟩ := hd
    obtain ⟨_, _, rfl, rfl, vb, _, rfl, db, vt, _, rfl, dt, rfl⟩ := hv
    refine ⟨_, PSs.nox (pss_cons (ps_if (PW.pt (pw_or (pt_not (pt_val (pe_is .tup (pv 0) T.b_isinstance T.b_tuple))) (pw_or1 (pt_cmpR op_ne (pe_callB call_len_seq (by rfl) T.b_len PySem.boot_len (pa_cons (pv 0) pa_nil)) pe_int (nomark _))))) (pss_one (ps_ret pe_bl)) pss_nil)
      (pss_one (ps_ret (pe_and (pcall T.dIsRoot (ok_root T) (hr.mono (by decide)) pass0 (pa_cons (pe_ix ix_tup (pv 0) pe_int (fun _ _ => rfl)) pa_nil))
        (pe_and (pcall T.dIsWhere (ok_where1 T) hr pass0 (pa_cons (pe_ix ix_tup (pv 0) pe_int (fun _ _ => rfl)) pa_nil)) (pe_one (pcall T.dIsItems (ok_items1 T) (hr.mono (by decide)) pass0 (pa_cons (pe_ix ix_tup (pv 0) pe_int (fun _ _ => rfl)) pa_nil)))))))), ?_⟩
    refine ⟨_, rfl, _, _, rfl, .tup ha, _, rfl, iteF ⟨_, rfl, _, _, rfl, .inr (SqT.of ha), rfl, _, rfl, iteF ?_⟩⟩
    refine ⟨_, rfl, _, _, _, _, rfl, rfl, SqT.of ha, atI_nat (j := 0) rfl, ⟨_, rfl, g1⟩, fun H1 s1 => ⟨_, rfl, iteT ?_⟩⟩
    refine ⟨_, rfl, _, _, _, _, rfl, rfl, SqT.of (s1 _ _ ha), atI_nat (j := 1) rfl, ⟨_, _, rfl, db.same s1, g2⟩, fun H2 s2 => ⟨_, rfl, iteT ?_⟩⟩
    exact ⟨_, rfl, _, _, _, _, rfl, rfl, SqT.of (s2 _ _ (s1 _ _ ha)), atI_nat (j := 2) rfl, ⟨_, _, rfl, (dt.same s1).same s2, _, rfl, g3⟩, fun H3 s3 => q _ ((s1.trans s2).trans s3)⟩
end
end Mw

/-! is_stand of good stands. -/
namespace Mw
open PySem PySem.Spec PyProof.Rows L2
theorem cut_init {xs : List V} : cutV xs none (some (-1)) = xs.dropLast := by
  unfold cutV
  rw [List.dropLast_eq_take]
  have e : HT.sIx xs.length xs.length (some (-1)) = xs.length - 1 := by
    unfold HT.sIx
    simp only
    split <;> omega
  have e0 : HT.sIx xs.length 0 none = 0 := rfl
  rw [e, e0]
  simp
theorem cut_tail {xs : List V} : cutV xs (some 1) none = xs.drop 1 := by
  unfold cutV
  have e : HT.sIx xs.length xs.length none = xs.length := rfl
  have e0 : HT.sIx xs.length 0 (some 1) = min 1 xs.length := by
    unfold HT.sIx
    simp only
    split <;> omega
  rw [e, e0]
  cases xs with
  | nil => rfl
  | cons x xs =>
    have : min 1 (x :: xs).length = 1 := by simp
    rw [this]
    simp
/-- rising texts -/
theorem roots_rise : rootsL.Pairwise Lt := by unfold Lt; decide +kernel
section
variable {P : Program} {w : World} {K : PySem.W.Frag} {mg : Str → Option Value} {base : Heap}
theorem ok_stand (T : Tx K mg) : OkG P w K mg base CX0 8 "is_stand" ["thing"] (dat GoodStand) := by
  refine T.fIsStand.ok scIsStand (fun vs H Q E h => ?_) (fun cdv A outer s H vs Q E hr h => ?_)
  · obtain ⟨⟨k, x, rfl, _⟩, _⟩ := h
    rfl
  · obtain ⟨⟨k, x, rfl, hd, rs, rfl, gs, gr⟩, q⟩ := h
    obtain ⟨a, vs, rfl, ha, hv⟩ := hd
    have hn := hv.length
    rw [List.length_map] at hn
    have h12 : rs.length ≤ 12 := by
      have := gs.length_le
      rw [List.length_map] at this
      exact this
    have rise : (rs.map (·.1)).Pairwise Lt := roots_rise.sublist gs
    refine ⟨_, PSs.nox (pss_cons (ps_if (PW.pt (pw_or (pt_not (pt_val (pe_is .tup (pv 0) T.b_isinstance T.b_tuple))) (pw_or1 (pt_not (pt_val (pe_callB (cr_all rfl) (by rfl) T.b_all (by decide +kernel) (pa_cons
      (pe_lc (own := [("row", 1)]) (g := gName 1) (tt := tYes) rfl scIsStand.nd (pi_tup (pv 0)) (blkOk_by (N := nIsStand) (sc := defScope sIsStand) (by decide +kernel)) (fun _ _ _ _ _ => pg_name (i := 1) scIsStand.nd rfl (Or.inl rfl)) (fun _ _ _ _ _ => pts_nil)
        (fun _ _ _ _ _ => pcall T.dIsRow (ok_row T) hr pass0 (pa_cons (pv 1) pa_nil))) pa_nil))))))) (pss_one (ps_ret pe_bl)) pss_nil)
      (pss_cons (ps_setLc (i := 2) (own := [("row", 1)]) (g := gName 1) (tt := tYes) (te := tOp (rIxT K) (tVar 1) (tC (.int 0))) rfl scIsStand.nd rfl rfl (sw_true rfl rfl rfl (by decide +kernel)) (pi_tup (pv 0)) (blkOk_by (N := nIsStand) (sc := defScope sIsStand) (by decide +kernel)) (fun _ _ _ _ _ => pg_name (i := 1) scIsStand.nd rfl (Or.inl rfl)) (fun _ _ _ _ _ => pts_nil)
        (fun _ _ _ _ _ => pe_ix ix_tup (pv 1) pe_int (fun _ _ => rfl)))
      (pss_one (ps_ret (pe_callB (cr_all rfl) (by rfl) T.b_all (by decide +kernel) (pa_cons
      (pe_lc (own := [("one", 3), ("other", 4)]) (g := gTup K 2 (gCons (gName 3) (gCons (gName 4) gNil))) (tt := tYes) rfl scIsStand.nd (pi_zip (by rfl) T.b_zip (pa_cons (pe_slice sl_list (pv 2) po_none (po_some (pe_un un_neg pe_int))) (pa_cons (pe_slice sl_list (pv 2) (po_some pe_int) po_none) pa_nil))) (blkOk_by (N := nIsStand) (sc := defScope sIsStand) (by decide +kernel)) (fun _ _ _ _ _ => pg_tup rfl (pgs_cons (pg_name (i := 3) scIsStand.nd rfl (Or.inl rfl)) (pgs_cons (pg_name (i := 4) scIsStand.nd rfl (Or.inl rfl)) pgs_nil))) (fun _ _ _ _ _ => pts_nil)
        (fun _ _ _ _ _ => pe_cmpR op_lt_str (pv 3) (pv 4) (nomark _))) pa_nil)))))), ?_⟩
    refine ⟨_, rfl, _, _, rfl, .tup ha, _, rfl, iteF ⟨_, rfl, _, rfl, ⟨_, SqT.of ha⟩, fun D hD => lc_true (Wk.tup (SqT.of ha)) hD (by rw [sizeLine_eq]; omega) (fun i v H1 k hi s hw hk => ?_) (fun H1 s1 hD1 => ?_)⟩⟩
    · obtain ⟨d, hd1, hd2⟩ := hv.get hw
      rw [List.getElem?_map] at hd1
      obtain ⟨r, hr1, rfl⟩ := Option.map_eq_some_iff.mp hd1
      have hm := List.mem_of_getElem? hr1
      exact ⟨rfl, _, rfl, ⟨_, _, rfl, hd2.same s, r, rfl, gs.subset (List.mem_map_of_mem hm), gr r hm⟩, hk⟩
    · refine ⟨_, _, rfl, SqL.of hD1, _, rfl, ?_⟩
      rw [all_true]
      refine iteF ⟨_, rfl, _, rfl, ⟨_, SqT.of (s1 _ _ ha)⟩, fun D2 hD2 => lc_same (Wk.tup (SqT.of (s1 _ _ ha))) hD2 (fun i acc => acc = (rs.take i).map fun r => V.str r.1) rfl (fun i v acc H2 hi hl hDa s r hw => ?_) (fun acc H2 s2 r hDb => ?_)⟩
      · obtain ⟨d, hd1, hd2⟩ := hv.get hw
        rw [List.getElem?_map] at hd1
        obtain ⟨r1, hr1, rfl⟩ := Option.map_eq_some_iff.mp hd1
        obtain ⟨b, ws, rfl, hb, _, _, rfl, rfl, _⟩ := hd2
        refine ⟨rfl, _, rfl, _, _, _, _, rfl, rfl, SqT.of (s _ _ (s1 _ _ hb)), atI_nat (j := 0) rfl, ?_⟩
        refine LcS.put hD2 s hDa hl (by rw [sizeLine_eq]; omega) ?_
        rw [r, List.take_add_one, hr1]
        simp
      · rw [hn, List.take_length] at r
        subst r
        refine ⟨_, rfl, _, rfl, _, rfl, _, _, rfl, SqL.of hDb, fun p1 np1 => ?_⟩
        refine ⟨_, rfl, _, rfl, _, _, rfl, SqL.of ((Same.new np1) _ _ hDb), fun p2 np2 => ?_⟩
        rw [cut_init, cut_tail]
        rw [cut_init] at np2
        have hp1 := (Same.new (o := .lst ((rs.map fun r => V.str r.1).drop 1)) np2) _ _ (upd_same (H := H2) (a := p1) (o := .lst (rs.map fun r => V.str r.1).dropLast))
        refine ⟨_, _, _, _, rfl, SqL.of hp1, SqL.of upd_same, fun D3 hD3 => ?_⟩
        have ll : (rs.map fun r => V.str r.1).dropLast.length = ((rs.map fun r => V.str r.1).drop 1).length := by simp
        refine lc_true (Wk.zip ll (SqL.of hp1) (SqL.of upd_same) (by simp) (by simp)) hD3 (by rw [sizeLine_eq]; simp; omega) (fun i v H1' k hi s hw hk => ?_) (fun H3 s3 hD4 => ?_)
        · obtain ⟨t, x, y, rfl, ht, hx, hy⟩ := hw
          have hi2 : i + 1 < rs.length := by
            simp at hi
            omega
          have ex : x = .str (rs[i]'(by omega)).1 := by
            rw [List.getElem?_dropLast, if_pos (by simp; omega), List.getElem?_map, List.getElem?_eq_getElem (by omega)] at hx
            exact (Option.some.inj hx).symm
          have ey : y = .str (rs[i + 1]'(by omega)).1 := by
            rw [List.getElem?_drop, List.getElem?_map, List.getElem?_eq_getElem (by omega)] at hy
            have z := Option.some.inj hy
            simp only [Nat.add_comm 1 i] at z
            exact z.symm
          subst ex ey
          have lt : Lt (rs[i]'(by omega)).1 (rs[i + 1]'(by omega)).1 := by
            have z := List.pairwise_iff_getElem.mp rise i (i + 1) (by simp; omega) (by simp; omega) (by omega)
            simpa using z
          exact ⟨_, _, rfl, SqT.of ht, rfl, _, _, rfl, _, _, rfl, rfl, rfl, _, rfl, _, rfl, _, _, rfl, rfl, qT (decide_eq_true lt) (hk _ (Same.refl _))⟩
        · exact ⟨_, _, rfl, SqL.of hD4, qT (all_true _) (q _ (((s1.trans s2).trans ((Same.new np1).trans (Same.new np2))).trans s3))⟩
end
end Mw

/-! The state of a wood, plain: its makes, names, what is come to, what is alike. -/
namespace Mw
open PySem PySem.Spec PyProof.Rows L2
structure Ent where
  n : Int
  st : NestedKey
  el : List Int
  wd : Str
  id : Int
  ei : List Int
structure Wo where
  ents : List Ent
  names : List (Str × Int)
  next : Int
def mk3 (st : NestedKey) (ns : List Int) (wd : Str) : NestedKey := .tup [st, .tup (ns.map .num), .text wd]
def madeK (e : Ent) : NestedKey := mk3 e.st e.el e.wd
def worldK (e : Ent) : NestedKey := mk3 e.st e.ei e.wd
theorem num_inj : ∀ {xs ys : List Int}, xs.map NestedKey.num = ys.map NestedKey.num → xs = ys
  | [], [], _ => rfl
  | [], y :: ys, h => by cases h
  | x :: xs, [], h => by cases h
  | x :: xs, y :: ys, h => by
    rw [List.map_cons, List.map_cons] at h
    injection h with h1 h2
    injection h1 with h1
    rw [h1, num_inj h2]
theorem mk3_inj {a b : NestedKey} {xs ys : List Int} {u v : Str} (h : mk3 a xs u = mk3 b ys v) : a = b ∧ xs = ys ∧ u = v := by
  unfold mk3 at h
  injection h with h
  injection h with h1 h
  injection h with h2 h
  injection h with h3 h
  injection h2 with h2
  injection h3 with h3
  exact ⟨h1, num_inj h2, h3⟩
def Wo.nums (S : Wo) : List Int := S.ents.map (·.n)
theorem Wo.mem_nums {S : Wo} {n : Int} : n ∈ S.nums ↔ ∃ e ∈ S.ents, e.n = n := List.mem_map
/-- the number of a make -/
def Wo.find (S : Wo) (st : NestedKey) (el : List Int) (wd : Str) : Option Int := (S.ents.find? fun e => decide (madeK e = mk3 st el wd)).map (·.n)
def Wo.put (S : Wo) (st : NestedKey) (el : List Int) (wd : Str) (id : Int) (ei : List Int) : Wo × Int :=
  match S.find st el wd with
  | some n => (S, n)
  | none => ({ S with ents := S.ents ++ [⟨S.next, st, el, wd, id, ei⟩], next := S.next + 1 }, S.next)
def Wo.idAt (S : Wo) (n : Int) : Int := ((S.ents.find? fun e => decide (e.n = n)).map (·.id)).getD 0
def Wo.keep (S : Wo) (p : Int → Bool) : Wo := { S with ents := S.ents.filter fun e => p e.n }
abbrev Nms := List (Str × Int)
def getN (ns : Nms) (x : Str) : Option Int := (ns.find? fun p => decide (p.1 = x)).map (·.2)
def setN (ns : Nms) (x : Str) (n : Int) : Nms := if (ns.any fun p => decide (p.1 = x)) = true then ns.map (fun p => if p.1 = x then (p.1, n) else p) else ns ++ [(x, n)]
def dropN (ns : Nms) (x : Str) : Nms := ns.filter fun p => decide (p.1 ≠ x)
def Wo.setName (S : Wo) (x : Str) (n : Int) : Wo := { S with names := setN S.names x n }
def Wo.dropName (S : Wo) (x : Str) : Wo := { S with names := dropN S.names x }
def namesL : List Str := ["main", "a", "abcdefgh"]
theorem names_word : ∀ x ∈ namesL, GoodWord x := by decide +kernel
theorem findD {α : Type} {l : List α} {p : α → Prop} [DecidablePred p] {a : α} (h : l.find? (fun x => decide (p x)) = some a) : p a ∧ a ∈ l := ⟨of_decide_eq_true (List.find?_some (p := fun x => decide (p x)) h), List.mem_of_find?_eq_some h⟩
/-! names -/
theorem getN_mem {ns : Nms} {x : Str} {n : Int} (h : getN ns x = some n) : (x, n) ∈ ns := by
  unfold getN at h
  obtain ⟨p, hp, e⟩ := Option.map_eq_some_iff.mp h
  have h1 := List.find?_some hp
  have h2 := List.mem_of_find?_eq_some hp
  have h3 : p.1 = x := of_decide_eq_true h1
  subst h3 e
  exact h2
theorem getN_none {ns : Nms} {x : Str} : getN ns x = none ↔ x ∉ ns.map (·.1) := by
  unfold getN
  rw [Option.map_eq_none_iff, List.find?_eq_none]
  constructor
  · intro h hm
    obtain ⟨p, hp, e⟩ := List.mem_map.mp hm
    exact h p hp (decide_eq_true e)
  · intro h p hp hd
    exact h (List.mem_map.mpr ⟨p, hp, of_decide_eq_true hd⟩)
theorem getN_some {ns : Nms} {x : Str} (h : x ∈ ns.map (·.1)) : ∃ n, getN ns x = some n := by
  cases q : getN ns x with
  | none => exact absurd h (getN_none.mp q)
  | some n => exact ⟨n, rfl⟩
theorem getN_of {ns : Nms} (nd : (ns.map (·.1)).Nodup) {x : Str} {n : Int} (h : (x, n) ∈ ns) : getN ns x = some n := by
  induction ns with
  | nil => cases h
  | cons p r ih =>
    obtain ⟨h1, h2⟩ := List.nodup_cons.mp (show (p.1 :: r.map (·.1)).Nodup from nd)
    rcases List.mem_cons.mp h with e | h
    · subst e
      simp [getN, List.find?_cons]
    · have ne : ¬ p.1 = x := fun e => h1 (List.mem_map.mpr ⟨(x, n), h, e.symm⟩)
      have := ih h2 h
      simp only [getN, List.find?_cons, decide_eq_false ne] at this ⊢
      exact this
theorem setN_keys {ns : Nms} {x : Str} {n : Int} : (setN ns x n).map (·.1) = if x ∈ ns.map (·.1) then ns.map (·.1) else ns.map (·.1) ++ [x] := by
  unfold setN
  by_cases h : x ∈ ns.map (·.1)
  · have h1 : (ns.any fun p => decide (p.1 = x)) = true := by
      obtain ⟨p, hp, e⟩ := List.mem_map.mp h
      exact List.any_eq_true.mpr ⟨p, hp, decide_eq_true e⟩
    rw [if_pos h1, if_pos h, List.map_map]
    refine List.map_congr_left fun p _ => ?_
    show (if p.1 = x then (p.1, n) else p).1 = p.1
    split <;> rfl
  · have h1 : ¬ (ns.any fun p => decide (p.1 = x)) = true := by
      intro z
      obtain ⟨p, hp, e⟩ := List.any_eq_true.mp z
      exact h (List.mem_map.mpr ⟨p, hp, of_decide_eq_true e⟩)
    rw [if_neg h1, if_neg h, List.map_append]
    rfl
theorem setN_mem {ns : Nms} {x : Str} {n : Int} {p : Str × Int} (h : p ∈ setN ns x n) : p ∈ ns ∨ p = (x, n) := by
  unfold setN at h
  split at h
  · obtain ⟨q, hq, e⟩ := List.mem_map.mp h
    by_cases z : q.1 = x
    · rw [if_pos z] at e
      right
      rw [← e, z]
    · rw [if_neg z] at e
      left
      rw [← e]
      exact hq
  · rcases List.mem_append.mp h with h | h
    · exact .inl h
    · exact .inr (List.mem_singleton.mp h)
theorem getN_map {x y : Str} {n : Int} : ∀ ns : Nms, getN (ns.map fun p => if p.1 = x then (p.1, n) else p) y = (getN ns y).map fun m => if y = x then n else m
  | [] => rfl
  | p :: r => by
    have ih := getN_map (x := x) (y := y) (n := n) r
    rw [List.map_cons]
    by_cases h : p.1 = x
    · rw [if_pos h]
      by_cases e : p.1 = y
      · have e2 : y = x := e.symm.trans h
        simp [getN, List.find?_cons, e, e2]
      · simp only [getN, List.find?_cons, decide_eq_false e] at ih ⊢
        exact ih
    · rw [if_neg h]
      by_cases e : p.1 = y
      · have : ¬ y = x := fun z => h (e.trans z)
        simp [getN, List.find?_cons, e, this]
      · simp only [getN, List.find?_cons, decide_eq_false e] at ih ⊢
        exact ih
theorem getN_set {ns : Nms} {x y : Str} {n : Int} : getN (setN ns x n) y = if y = x then some n else getN ns y := by
  unfold setN
  by_cases a : (ns.any fun p => decide (p.1 = x)) = true
  · rw [if_pos a, getN_map]
    by_cases e : y = x
    · subst e
      rw [if_pos rfl]
      obtain ⟨p, hp, e⟩ := List.any_eq_true.mp a
      obtain ⟨m, hm⟩ := getN_some (ns := ns) (x := y) (List.mem_map.mpr ⟨p, hp, of_decide_eq_true e⟩)
      rw [hm]
      simp
    · rw [if_neg e]
      cases getN ns y <;> simp [e]
  · rw [if_neg a]
    have hx : getN ns x = none := getN_none.mpr fun hm => a (by
      obtain ⟨p, hp, e⟩ := List.mem_map.mp hm
      exact List.any_eq_true.mpr ⟨p, hp, decide_eq_true e⟩)
    unfold getN at hx ⊢
    rw [List.find?_append]
    by_cases e : y = x
    · subst e
      rw [if_pos rfl]
      rw [Option.map_eq_none_iff] at hx
      rw [hx]
      simp
    · rw [if_neg e]
      have ne : ¬ x = y := fun z => e z.symm
      simp [List.find?_cons, ne]
theorem dropN_keys {ns : Nms} {x : Str} : (dropN ns x).map (·.1) = (ns.map (·.1)).filter fun y => decide (y ≠ x) := by
  unfold dropN
  rw [List.filter_map]
  rfl
/-! good -/
/-- el are makes of S with these ids -/
def Elds (S : Wo) (el ei : List Int) : Prop := Paired (fun k i => ∃ f ∈ S.ents, f.n = k ∧ f.id = i) el ei
structure Good (ws : List NestedKey) (S : Wo) : Prop where
  rise : S.ents.Pairwise fun e f => e.n < f.n
  rng : ∀ e ∈ S.ents, 0 ≤ e.n ∧ e.n < S.next
  old : ∀ e ∈ S.ents, ∀ k ∈ e.el, k < e.n
  el : ∀ e ∈ S.ents, Elds S e.el e.ei
  few : ∀ e ∈ S.ents, e.el.length ≤ 3
  ids : ∀ e ∈ S.ents, ∀ f ∈ S.ents, e.id = f.id → e = f
  wid : ∀ e ∈ S.ents, 0 ≤ e.id ∧ ws[e.id.toNat]? = some (worldK e)
  wnd : ws.Nodup
  st : ∀ e ∈ S.ents, GoodStand e.st
  nm : ∀ p ∈ S.names, p.1 ∈ namesL ∧ p.2 ∈ S.nums
  nnd : (S.names.map (·.1)).Nodup
  len : (S.ents.length : Int) ≤ S.next
section
variable {ws : List NestedKey} {S T : Wo}
theorem Good.uniq (G : Good ws S) {e f : Ent} (he : e ∈ S.ents) (hf : f ∈ S.ents) (h : e.n = f.n) : e = f := by
  have key : ∀ {l : List Ent}, l.Pairwise (fun e f => e.n < f.n) → e ∈ l → f ∈ l → e = f := by
    intro l
    induction l with
    | nil => intro _ h; cases h
    | cons a l ih =>
      intro p h1 h2
      obtain ⟨p1, p2⟩ := List.pairwise_cons.mp p
      rcases List.mem_cons.mp h1 with h1 | h1
      · rcases List.mem_cons.mp h2 with h2 | h2
        · rw [h1, h2]
        · rw [← h1] at p1
          have := p1 f h2
          omega
      · rcases List.mem_cons.mp h2 with h2 | h2
        · rw [← h2] at p1
          have := p1 e h1
          omega
        · exact ih p2 h1 h2
  exact key G.rise he hf
theorem Good.nums_rise (G : Good ws S) : S.nums.Pairwise (· < ·) := List.pairwise_map.mpr G.rise
theorem Good.ent (G : Good ws S) {e : Ent} (he : e ∈ S.ents) : S.ents.find? (fun f => decide (f.n = e.n)) = some e := by
  cases q : S.ents.find? (fun f => decide (f.n = e.n)) with
  | none => exact absurd (decide_eq_true rfl) (List.find?_eq_none.mp q e he)
  | some f => rw [G.uniq (findD q).2 he (findD q).1]
theorem Good.idAt (G : Good ws S) {e : Ent} (he : e ∈ S.ents) : S.idAt e.n = e.id := by
  unfold Wo.idAt
  rw [G.ent he]
  rfl
theorem Good.elds_map (G : Good ws S) {el ei : List Int} (h : Elds S el ei) : ei = el.map S.idAt := by
  induction h with
  | nil => rfl
  | cons h t ih =>
    obtain ⟨f, hf, rfl, rfl⟩ := h
    rw [List.map_cons, G.idAt hf, ← ih]
theorem Good.elds_of (G : Good ws S) : ∀ {el : List Int}, (∀ k ∈ el, k ∈ S.nums) → Elds S el (el.map S.idAt)
  | [], _ => .nil
  | k :: el, h => by
    obtain ⟨f, hf, rfl⟩ := Wo.mem_nums.mp (h k List.mem_cons_self)
    exact .cons ⟨f, hf, rfl, (G.idAt hf).symm⟩ (G.elds_of fun j hj => h j (List.mem_cons_of_mem _ hj))
theorem Elds.mem : ∀ {el ei : List Int}, Elds S el ei → ∀ k ∈ el, k ∈ S.nums
  | _, _, .nil, k, h => by cases h
  | _, _, .cons h t, k, hk => by
    rcases List.mem_cons.mp hk with e | hk
    · obtain ⟨f, hf, e2, _⟩ := h
      exact Wo.mem_nums.mpr ⟨f, hf, by rw [e2, e]⟩
    · exact Elds.mem t k hk
theorem Elds.mono (h : ∀ e ∈ S.ents, e ∈ T.ents) {el ei : List Int} (x : Elds S el ei) : Elds T el ei := Paired.mapP x fun k i ⟨f, hf, a, b⟩ => ⟨f, h f hf, a, b⟩
/-- the ids of two rows of elders are alike: so are the elders -/
theorem Good.elds_inj (G : Good ws S) : ∀ {el el' ei : List Int}, Elds S el ei → Elds S el' ei → el = el'
  | _, _, _, .nil, h => by
    cases h
    rfl
  | _, _, _, .cons h t, h2 => by
    cases h2 with
    | cons h' t' =>
      obtain ⟨f, hf, rfl, e1⟩ := h
      obtain ⟨g, hg, rfl, e2⟩ := h'
      rw [G.ids f hf g hg (e1.trans e2.symm), G.elds_inj t t']
theorem Good.world_id (G : Good ws S) {T : Wo} (G' : Good ws T) {e f : Ent} (he : e ∈ S.ents) (hf : f ∈ T.ents) (h : worldK e = worldK f) : e.id = f.id := by
  obtain ⟨a1, a2⟩ := G.wid e he
  obtain ⟨b1, b2⟩ := G'.wid f hf
  rw [h] at a2
  obtain ⟨c1, d1⟩ := List.getElem?_eq_some_iff.mp a2
  obtain ⟨c2, d2⟩ := List.getElem?_eq_some_iff.mp b2
  have := (List.getElem_inj G.wnd).mp (d1.trans d2.symm)
  omega
theorem Good.id_world (G : Good ws S) {T : Wo} (G' : Good ws T) {e f : Ent} (he : e ∈ S.ents) (hf : f ∈ T.ents) (h : e.id = f.id) : worldK e = worldK f := by
  obtain ⟨_, a2⟩ := G.wid e he
  obtain ⟨_, b2⟩ := G'.wid f hf
  rw [h, b2] at a2
  exact (Option.some.inj a2).symm
theorem Good.find_iff (G : Good ws S) {st : NestedKey} {el : List Int} {wd : Str} {n : Int} : S.find st el wd = some n ↔ ∃ e ∈ S.ents, madeK e = mk3 st el wd ∧ e.n = n := by
  unfold Wo.find
  constructor
  · intro h
    obtain ⟨e, he, rfl⟩ := Option.map_eq_some_iff.mp h
    exact ⟨e, (findD he).2, (findD he).1, rfl⟩
  · rintro ⟨e, he, h, rfl⟩
    cases q : S.ents.find? (fun e => decide (madeK e = mk3 st el wd)) with
    | none => exact absurd (decide_eq_true h) (List.find?_eq_none.mp q e he)
    | some f =>
      have hf := (findD q).2
      have h2 : madeK f = mk3 st el wd := (findD q).1
      obtain ⟨x1, x2, x3⟩ := mk3_inj (h.trans h2.symm)
      have e2 : e.ei = f.ei := by rw [G.elds_map (G.el e he), G.elds_map (G.el f hf), x2]
      have : e = f := G.ids e he f hf (G.world_id G he hf (by unfold worldK; rw [x1, e2, x3]))
      rw [this]
      rfl
/-- by its id -/
theorem Good.find_id (G : Good ws S) {st : NestedKey} {el ei : List Int} {wd : Str} {id : Int} {ws' : List NestedKey} (hl : Elds S el ei) (h0 : 0 ≤ id) (hid : ws'[id.toNat]? = some (mk3 st ei wd)) (hw : ∀ (i : Nat) k, ws[i]? = some k → ws'[i]? = some k) (nd : ws'.Nodup) :
    S.find st el wd = (S.ents.find? fun e => decide (e.id = id)).map (·.n) := by
  have key : ∀ e ∈ S.ents, (madeK e = mk3 st el wd ↔ e.id = id) := by
    intro e he
    obtain ⟨w0, w1⟩ := G.wid e he
    have w2 := hw _ _ w1
    constructor
    · intro h
      obtain ⟨x1, x2, x3⟩ := mk3_inj h
      have e2 : e.ei = ei := by rw [G.elds_map (G.el e he), G.elds_map hl, x2]
      have e3 : worldK e = mk3 st ei wd := by unfold worldK; rw [x1, e2, x3]
      rw [e3] at w2
      obtain ⟨c1, d1⟩ := List.getElem?_eq_some_iff.mp w2
      obtain ⟨c2, d2⟩ := List.getElem?_eq_some_iff.mp hid
      have := (List.getElem_inj nd).mp (d1.trans d2.symm)
      omega
    · intro h
      rw [h, hid] at w2
      obtain ⟨x1, x2, x3⟩ := mk3_inj (Option.some.inj w2)
      have e2 : e.el = el := G.elds_inj (el' := el) (by rw [x2]; exact G.el e he) hl
      unfold madeK
      rw [e2, x1, x3]
  unfold Wo.find
  congr 1
  have : ∀ l : List Ent, (∀ e ∈ l, e ∈ S.ents) → l.find? (fun e => decide (madeK e = mk3 st el wd)) = l.find? (fun e => decide (e.id = id)) := by
    intro l
    induction l with
    | nil => intro _; rfl
    | cons a l ih =>
      intro h
      have k := key a (h a List.mem_cons_self)
      rw [List.find?_cons, List.find?_cons, decide_eq_decide.mpr k, ih fun e he => h e (List.mem_cons_of_mem _ he)]
  exact this S.ents fun e he => he
theorem Good.mono (G : Good ws S) {ws' : List NestedKey} (hw : ∀ (i : Nat) k, ws[i]? = some k → ws'[i]? = some k) (nd : ws'.Nodup) : Good ws' S :=
  { G with wid := fun e he => ⟨(G.wid e he).1, hw _ _ (G.wid e he).2⟩, wnd := nd }
/-- a make put in -/
theorem Good.put (G : Good ws S) {st : NestedKey} {el ei : List Int} {wd : Str} {id : Int} (hs : GoodStand st) (hl : Elds S el ei) (h3 : el.length ≤ 3) (h0 : 0 ≤ id) (hid : ws[id.toNat]? = some (mk3 st ei wd)) :
    Good ws (S.put st el wd id ei).1 ∧ (S.put st el wd id ei).2 ∈ (S.put st el wd id ei).1.nums := by
  have fid := G.find_id hl h0 hid (fun _ _ h => h) G.wnd
  unfold Wo.put
  cases q : S.find st el wd with
  | some n =>
    obtain ⟨e, he, _, rfl⟩ := G.find_iff.mp q
    exact ⟨G, Wo.mem_nums.mpr ⟨e, he, rfl⟩⟩
  | none =>
    rw [q] at fid
    have nid : ∀ e ∈ S.ents, ¬ e.id = id := by
      intro e he z
      have := Option.map_eq_none_iff.mp fid.symm
      exact List.find?_eq_none.mp this e he (decide_eq_true z)
    have mono : ∀ e ∈ S.ents, e ∈ S.ents ++ [(⟨S.next, st, el, wd, id, ei⟩ : Ent)] := fun e he => List.mem_append_left _ he
    have nn : 0 ≤ S.next := by have := G.len; omega
    have spl : ∀ e ∈ S.ents ++ [(⟨S.next, st, el, wd, id, ei⟩ : Ent)], e ∈ S.ents ∨ e = ⟨S.next, st, el, wd, id, ei⟩ := fun e he => (List.mem_append.mp he).imp (fun z => z) List.mem_singleton.mp
    refine ⟨⟨?_, ?_, ?_, ?_, ?_, ?_, ?_, G.wnd, ?_, ?_, G.nnd, ?_⟩, ?_⟩
    · refine List.pairwise_append.mpr ⟨G.rise, List.pairwise_singleton _ _, fun e he f hf => ?_⟩
      rw [List.mem_singleton.mp hf]
      exact (G.rng e he).2
    · intro e he
      show 0 ≤ e.n ∧ e.n < S.next + 1
      rcases spl e he with he | rfl
      · have := G.rng e he
        omega
      · exact ⟨nn, by show S.next < S.next + 1; omega⟩
    · intro e he k hk
      rcases spl e he with he | rfl
      · exact G.old e he k hk
      · obtain ⟨f, hf, rfl⟩ := Wo.mem_nums.mp (Elds.mem hl k hk)
        exact (G.rng f hf).2
    · intro e he
      rcases spl e he with he | rfl
      · exact (G.el e he).mono mono
      · exact hl.mono mono
    · intro e he
      rcases spl e he with he | rfl
      · exact G.few e he
      · exact h3
    · intro e he f hf h
      rcases spl e he with he | rfl <;> rcases spl f hf with hf | rfl
      · exact G.ids e he f hf h
      · exact absurd h (nid e he)
      · exact absurd h.symm (nid f hf)
      · rfl
    · intro e he
      rcases spl e he with he | rfl
      · exact G.wid e he
      · exact ⟨h0, hid⟩
    · intro e he
      rcases spl e he with he | rfl
      · exact G.st e he
      · exact hs
    · intro p hp
      obtain ⟨a, b⟩ := G.nm p hp
      obtain ⟨e, he, z⟩ := Wo.mem_nums.mp b
      exact ⟨a, Wo.mem_nums.mpr ⟨e, mono e he, z⟩⟩
    · show ((S.ents ++ [_]).length : Int) ≤ S.next + 1
      rw [List.length_append, List.length_singleton]
      have := G.len
      omega
    · exact Wo.mem_nums.mpr ⟨_, List.mem_append_right _ (List.mem_singleton.mpr rfl), rfl⟩
theorem Good.setName (G : Good ws S) {x : Str} {n : Int} (hx : x ∈ namesL) (hn : n ∈ S.nums) : Good ws (S.setName x n) :=
  { G with
    nm := fun p hp => by
      rcases setN_mem hp with h | rfl
      · exact G.nm p h
      · exact ⟨hx, hn⟩
    nnd := by
      show ((setN S.names x n).map (·.1)).Nodup
      rw [setN_keys]
      split
      · exact G.nnd
      · next h => exact List.nodup_append.mpr ⟨G.nnd, by simp, fun a ha b hb => by
          rw [List.mem_singleton.mp hb]
          exact fun z => h (z ▸ ha)⟩ }
theorem Good.dropName (G : Good ws S) {x : Str} : Good ws (S.dropName x) :=
  { G with
    nm := fun p hp => G.nm p (List.mem_filter.mp hp).1
    nnd := by
      show ((dropN S.names x).map (·.1)).Nodup
      rw [dropN_keys]
      exact G.nnd.filter _ }
theorem Good.keep (G : Good ws S) {p : Int → Bool} (hc : ∀ e ∈ S.ents, p e.n = true → ∀ k ∈ e.el, p k = true) (hn : ∀ q ∈ S.names, p q.2 = true) : Good ws (S.keep p) := by
  have sub : ∀ e ∈ (S.keep p).ents, e ∈ S.ents ∧ p e.n = true := fun e he => List.mem_filter.mp he
  refine { rise := G.rise.filter _, rng := fun e he => G.rng e (sub e he).1, old := fun e he => G.old e (sub e he).1, el := fun e he => ?_, few := fun e he => G.few e (sub e he).1, ids := fun e he f hf => G.ids e (sub e he).1 f (sub f hf).1, wid := fun e he => G.wid e (sub e he).1, wnd := G.wnd, st := fun e he => G.st e (sub e he).1, nm := fun q hq => ?_, nnd := G.nnd, len := ?_ }
  · obtain ⟨h1, h2⟩ := sub e he
    have key : ∀ {el ei : List Int}, Elds S el ei → (∀ k ∈ el, p k = true) → Elds (S.keep p) el ei := by
      intro el ei h
      induction h with
      | nil => intro _; exact .nil
      | cons h t ih =>
        intro hp
        obtain ⟨f, hf, rfl, z⟩ := h
        exact .cons ⟨f, List.mem_filter.mpr ⟨hf, hp _ List.mem_cons_self⟩, rfl, z⟩ (ih fun k hk => hp k (List.mem_cons_of_mem _ hk))
    exact key (G.el e h1) (hc e h1 h2)
  · obtain ⟨a, b⟩ := G.nm q hq
    obtain ⟨e, he, z⟩ := Wo.mem_nums.mp b
    exact ⟨a, Wo.mem_nums.mpr ⟨e, List.mem_filter.mpr ⟨he, by rw [z]; exact hn q hq⟩, z⟩⟩
  · have := G.len
    have h2 : (S.keep p).ents.length ≤ S.ents.length := List.length_filter_le _ _
    show ((S.keep p).ents.length : Int) ≤ S.next
    omega
end
end Mw

/-! Lines: what is come to; makes that are alike; what lacks. -/
namespace Mw
open PySem PySem.Spec PyProof.Rows L2
inductive Rch (S : Wo) (st : List Int) : Int → Prop
  | start {n : Int} : n ∈ st → Rch S st n
  | step {e : Ent} {k : Int} : e ∈ S.ents → Rch S st e.n → k ∈ e.el → Rch S st k
open Classical in
noncomputable def line (S : Wo) (st : List Int) : List Int := S.nums.filter fun n => decide (Rch S st n)
structure Dfs (S : Wo) (st found waiting : List Int) : Prop where
  r : ∀ x, x ∈ found ∨ x ∈ waiting → Rch S st x
  s : ∀ x ∈ st, x ∈ found ∨ x ∈ waiting
  c : ∀ e ∈ S.ents, e.n ∈ found → ∀ k ∈ e.el, k ∈ found ∨ k ∈ waiting
  nd : found.Nodup
  m : ∀ x, x ∈ found ∨ x ∈ waiting → x ∈ S.nums
def mu (l : List Ent) (found : List Int) : Nat := ((l.filter fun e => decide (e.n ∉ found)).map fun e => e.el.length + 1).sum
section
variable {ws : List NestedKey} {S T : Wo} {st found waiting : List Int}
theorem line_mem {n : Int} : n ∈ line S st ↔ n ∈ S.nums ∧ Rch S st n := by
  unfold line
  rw [List.mem_filter]
  exact ⟨fun h => ⟨h.1, @of_decide_eq_true _ (_) h.2⟩, fun h => ⟨h.1, @decide_eq_true _ (_) h.2⟩⟩
theorem Rch.nums (G : Good ws S) (h : ∀ x ∈ st, x ∈ S.nums) {n : Int} (r : Rch S st n) : n ∈ S.nums := by
  induction r with
  | start h1 => exact h _ h1
  | step he _ hk _ => exact (G.el _ he).mem _ hk
theorem line_rise (G : Good ws S) : (line S st).Pairwise (· < ·) := G.nums_rise.filter _
theorem line_nodup (G : Good ws S) : (line S st).Nodup := (line_rise G).imp fun h => Int.ne_of_lt h
theorem Dfs.start (h : ∀ x ∈ st, x ∈ S.nums) : Dfs S st [] st where
  r := fun x hx => hx.elim (fun z => by cases z) Rch.start
  s := fun x hx => .inr hx
  c := fun e he h => by cases h
  nd := List.nodup_nil
  m := fun x hx => hx.elim (fun z => by cases z) (h x)
theorem Dfs.skip {w : List Int} {x : Int} (d : Dfs S st found (w ++ [x])) (hx : x ∈ found) : Dfs S st found w := by
  have up : ∀ y, y ∈ found ∨ y ∈ w → y ∈ found ∨ y ∈ w ++ [x] := fun y h => h.imp id fun z => List.mem_append_left _ z
  have dn : ∀ y, y ∈ found ∨ y ∈ w ++ [x] → y ∈ found ∨ y ∈ w := fun y h => h.elim .inl fun z => (List.mem_append.mp z).elim .inr fun z => .inl (by rw [List.mem_singleton.mp z]; exact hx)
  exact ⟨fun y h => d.r y (up y h), fun y h => dn y (d.s y h), fun e he h k hk => dn k (d.c e he h k hk), d.nd, fun y h => d.m y (up y h)⟩
theorem Dfs.visit (G : Good ws S) {w : List Int} {e : Ent} (d : Dfs S st found (w ++ [e.n])) (he : e ∈ S.ents) (hx : e.n ∉ found) : Dfs S st (found ++ [e.n]) (w ++ e.el) := by
  have re : Rch S st e.n := d.r _ (.inr (List.mem_append_right _ (List.mem_singleton.mpr rfl)))
  have dn : ∀ y, y ∈ found ∨ y ∈ w ++ [e.n] → y ∈ found ++ [e.n] ∨ y ∈ w ++ e.el := fun y h => h.elim (fun z => .inl (List.mem_append_left _ z)) fun z => (List.mem_append.mp z).elim (fun z => .inr (List.mem_append_left _ z)) fun z => .inl (List.mem_append_right _ z)
  have up : ∀ y, y ∈ found ++ [e.n] ∨ y ∈ w ++ e.el → (y ∈ found ∨ y ∈ w ++ [e.n]) ∨ y ∈ e.el := fun y h => h.elim
    (fun z => (List.mem_append.mp z).elim (fun z => .inl (.inl z)) fun z => .inl (.inr (List.mem_append_right _ z))) fun z => (List.mem_append.mp z).elim (fun z => .inl (.inr (List.mem_append_left _ z))) .inr
  refine ⟨fun y h => (up y h).elim (d.r y) fun z => Rch.step he re z, fun y h => dn y (d.s y h), fun f hf h k hk => ?_, ?_, fun y h => (up y h).elim (d.m y) fun z => (G.el e he).mem _ z⟩
  · rcases List.mem_append.mp h with h | h
    · exact dn k (d.c f hf h k hk)
    · have : f = e := G.uniq hf he (List.mem_singleton.mp h)
      subst this
      exact .inr (List.mem_append_right _ hk)
  · exact List.nodup_append.mpr ⟨d.nd, by simp, fun a ha b hb z => hx (by rw [← List.mem_singleton.mp hb, ← z]; exact ha)⟩
theorem Dfs.all (G : Good ws S) (d : Dfs S st found []) {x : Int} : x ∈ found ↔ Rch S st x := by
  have sp : ∀ y, y ∈ found ∨ y ∈ ([] : List Int) → y ∈ found := fun y h => h.elim id fun z => by cases z
  refine ⟨fun h => d.r x (.inl h), fun r => ?_⟩
  induction r with
  | start h => exact sp _ (d.s _ h)
  | step he _ hk ih => exact sp _ (d.c _ he ih _ hk)
theorem Dfs.done (G : Good ws S) (d : Dfs S st found []) : found.Perm (line S st) := by
  refine (List.perm_ext_iff_of_nodup d.nd (line_nodup G)).mpr fun x => ?_
  rw [line_mem]
  exact ⟨fun h => ⟨d.m x (.inl h), (d.all G).mp h⟩, fun h => (d.all G).mpr h.2⟩
/-- sorted: it is the line -/
theorem line_sorted (G : Good ws S) {ys : List Int} (h : ys.Perm found) (p : ys.Pairwise (· ≤ ·)) (d : found.Perm (line S st)) : ys = line S st :=
  List.Perm.eq_of_pairwise (le := fun a b : Int => a ≤ b) (fun a b _ _ x y => Int.le_antisymm x y) p ((line_rise G).imp Int.le_of_lt) (h.trans d)
theorem mu_le (G : Good ws S) (found : List Int) : mu S.ents found ≤ 4 * S.ents.length := by
  unfold mu
  have key : ∀ l : List Ent, (∀ e ∈ l, e.el.length ≤ 3) → (l.map fun e => e.el.length + 1).sum ≤ 4 * l.length := by
    intro l
    induction l with
    | nil => intro _; simp
    | cons a l ih =>
      intro h
      rw [List.map_cons, List.sum_cons, List.length_cons]
      have h1 := h a List.mem_cons_self
      have h2 := ih fun e he => h e (List.mem_cons_of_mem _ he)
      omega
  have h1 := key (S.ents.filter fun e => decide (e.n ∉ found)) fun e he => G.few e (List.mem_filter.mp he).1
  have h2 : (S.ents.filter fun e => decide (e.n ∉ found)).length ≤ S.ents.length := List.length_filter_le _ _
  omega
theorem mu_visit {e : Ent} (he : e ∈ S.ents) (hx : e.n ∉ found) : mu S.ents (found ++ [e.n]) + (e.el.length + 1) ≤ mu S.ents found := by
  have dn : ∀ l : List Ent, mu l (found ++ [e.n]) ≤ mu l found := by
    intro l
    induction l with
    | nil => exact Nat.le_refl _
    | cons a l ih =>
      unfold mu at ih ⊢
      by_cases h1 : a.n ∈ found
      · have h2 : a.n ∈ found ++ [e.n] := List.mem_append_left _ h1
        simpa [List.filter_cons, h1, h2] using ih
      · by_cases h2 : a.n ∈ found ++ [e.n]
        · rw [List.filter_cons, if_neg (by simp [h2]), List.filter_cons, if_pos (by simp [h1]), List.map_cons, List.sum_cons]
          omega
        · rw [List.filter_cons, if_pos (by simp only [decide_eq_true_eq]; exact h2), List.filter_cons, if_pos (by simp only [decide_eq_true_eq]; exact h1), List.map_cons, List.sum_cons, List.map_cons, List.sum_cons]
          omega
  have key : ∀ l : List Ent, e ∈ l → mu l (found ++ [e.n]) + (e.el.length + 1) ≤ mu l found := by
    intro l
    induction l with
    | nil => intro h; cases h
    | cons a l ih =>
      intro h
      by_cases ea : a = e
      · subst ea
        have d := dn l
        unfold mu at d ⊢
        rw [List.filter_cons, if_neg (by simp), List.filter_cons, if_pos (by simp only [decide_eq_true_eq]; exact hx), List.map_cons, List.sum_cons]
        omega
      · have h' : e ∈ l := (List.mem_cons.mp h).resolve_left fun z => ea z.symm
        have i := ih h'
        unfold mu at i ⊢
        by_cases h1 : a.n ∈ found
        · have h2 : a.n ∈ found ++ [e.n] := List.mem_append_left _ h1
          rw [List.filter_cons, if_neg (by simp [h2]), List.filter_cons, if_neg (by simp [h1])]
          exact i
        · by_cases h2 : a.n ∈ found ++ [e.n]
          · rw [List.filter_cons, if_neg (by simp [h2]), List.filter_cons, if_pos (by simp only [decide_eq_true_eq]; exact h1), List.map_cons, List.sum_cons]
            omega
          · rw [List.filter_cons, if_pos (by simp only [decide_eq_true_eq]; exact h2), List.filter_cons, if_pos (by simp only [decide_eq_true_eq]; exact h1), List.map_cons, List.sum_cons, List.map_cons, List.sum_cons]
            omega
  exact key S.ents he
/-- lines taken together -/
def putL (l : List Int) (x : Int) : List Int := if x ∈ l then l else l ++ [x]
theorem putL_mem {l : List Int} {x y : Int} : y ∈ putL l x ↔ y ∈ l ∨ y = x := by
  unfold putL
  split
  · next h => exact ⟨.inl, fun z => z.elim id fun z => z ▸ h⟩
  · rw [List.mem_append, List.mem_singleton]
theorem putL_nodup {l : List Int} {x : Int} (h : l.Nodup) : (putL l x).Nodup := by
  unfold putL
  split
  · exact h
  · next hx => exact List.nodup_append.mpr ⟨h, by simp, fun a ha b hb z => hx (by rw [← List.mem_singleton.mp hb, ← z]; exact ha)⟩
theorem Rch.mono {st st' : List Int} (h : ∀ x ∈ st, Rch S st' x) {n : Int} (r : Rch S st n) : Rch S st' n := by
  induction r with
  | start h1 => exact h _ h1
  | step he _ hk ih => exact Rch.step he ih hk
theorem Dfs.one (G : Good ws S) {n : Int} {found' : List Int} (d : Dfs S st found []) (hn : n ∈ S.nums) (hf : found'.Nodup) (hm : ∀ x, x ∈ found' ↔ x ∈ found ∨ x ∈ line S [n]) : Dfs S (st ++ [n]) found' [] := by
  have rn : Rch S (st ++ [n]) n := .start (List.mem_append_right _ (List.mem_singleton.mpr rfl))
  have sp : ∀ {l : List Int} {y : Int}, y ∈ l ∨ y ∈ ([] : List Int) → y ∈ l := fun h => h.elim id fun z => by cases z
  refine ⟨fun x hx => ?_, fun x hx => .inl ((hm x).mpr ?_), fun e he h k hk => .inl ((hm k).mpr ?_), hf, fun x hx => ?_⟩
  · rcases (hm x).mp (sp hx) with h | h
    · exact (d.r x (.inl h)).mono fun y hy => .start (List.mem_append_left _ hy)
    · exact (line_mem.mp h).2.mono fun y hy => by rw [List.mem_singleton.mp hy]; exact rn
  · rcases List.mem_append.mp hx with h | h
    · exact .inl (sp (d.s x h))
    · rw [List.mem_singleton.mp h]
      exact .inr (line_mem.mpr ⟨hn, .start (List.mem_singleton.mpr rfl)⟩)
  · rcases (hm e.n).mp h with h | h
    · exact .inl (sp (d.c e he h k hk))
    · exact .inr (line_mem.mpr ⟨(G.el e he).mem _ hk, .step he (line_mem.mp h).2 hk⟩)
  · rcases (hm x).mp (sp hx) with h | h
    · exact d.m x (.inl h)
    · exact (line_mem.mp h).1
theorem Dfs.has (G : Good ws S) {n : Int} (d : Dfs S st found []) (hn : n ∈ found) : Dfs S (st ++ [n]) found [] :=
  d.one G (d.m n (.inl hn)) d.nd fun x => ⟨.inl, fun h => h.elim id fun z => by
    have r := (line_mem.mp z).2
    exact (d.all G).mpr (r.mono fun y hy => by rw [List.mem_singleton.mp hy]; exact d.r n (.inl hn))⟩
/-- lines are the same where the makes that are come to are -/
theorem line_elders (G : Good ws S) {e : Ent} (he : e ∈ S.ents) (h : e.n ∈ line S st) {k : Int} (hk : k ∈ e.el) : k ∈ line S st := line_mem.mpr ⟨(G.el e he).mem _ hk, .step he (line_mem.mp h).2 hk⟩
theorem line_congr {st st' : List Int} (h : ∀ x, x ∈ st ↔ x ∈ st') : line S st = line S st' := by
  unfold line
  refine List.filter_congr fun n _ => ?_
  refine decide_eq_decide.mpr ⟨fun r => r.mono fun x hx => .start ((h x).mp hx), fun r => r.mono fun x hx => .start ((h x).mpr hx)⟩
/-! alike -/
def alE (T : Wo) (l : List Ent) : List (Int × Int) := l.filterMap fun e => (T.ents.find? fun f => decide (f.id = e.id)).map fun f => (e.n, f.n)
def al (S T : Wo) : List (Int × Int) := alE T S.ents
def alGet (l : List (Int × Int)) (n : Int) : Option Int := (l.find? fun p => decide (p.1 = n)).map (·.2)
theorem alGet_cons {l : List (Int × Int)} {p : Int × Int} {n : Int} : alGet (p :: l) n = if p.1 = n then some p.2 else alGet l n := by
  unfold alGet
  rw [List.find?_cons]
  by_cases h : p.1 = n
  · rw [decide_eq_true h, if_pos h]
    rfl
  · rw [decide_eq_false h, if_neg h]
theorem alGet_none {T : Wo} {n : Int} : ∀ {l : List Ent}, (∀ e ∈ l, ¬ e.n = n) → alGet (alE T l) n = none
  | [], _ => rfl
  | e :: l, h => by
    have ih := alGet_none (T := T) fun f hf => h f (List.mem_cons_of_mem _ hf)
    unfold alE at ih ⊢
    rw [List.filterMap_cons]
    cases q : T.ents.find? fun f => decide (f.id = e.id) with
    | none => exact ih
    | some f =>
      show alGet ((e.n, f.n) :: _) n = none
      rw [alGet_cons, if_neg (h e List.mem_cons_self)]
      exact ih
theorem alGet_of {T : Wo} : ∀ {l : List Ent}, l.Pairwise (fun e f => e.n < f.n) → ∀ {e : Ent}, e ∈ l → alGet (alE T l) e.n = (T.ents.find? fun f => decide (f.id = e.id)).map (·.n)
  | a :: l, hp, e, he => by
    obtain ⟨p1, p2⟩ := List.pairwise_cons.mp hp
    unfold alE
    rw [List.filterMap_cons]
    rcases List.mem_cons.mp he with ea | he
    · subst ea
      cases q : T.ents.find? fun f => decide (f.id = e.id) with
      | none =>
        exact alGet_none fun f hf z => by
          have := p1 f hf
          omega
      | some f =>
        show alGet ((e.n, f.n) :: _) e.n = some f.n
        rw [alGet_cons, if_pos rfl]
    · have ih := alGet_of (T := T) p2 he
      unfold alE at ih
      have ne : ¬ a.n = e.n := by
        have := p1 e he
        omega
      cases q : T.ents.find? fun f => decide (f.id = a.id) with
      | none => exact ih
      | some f =>
        show alGet ((a.n, f.n) :: _) e.n = _
        rw [alGet_cons, if_neg ne]
        exact ih
theorem al_get (G : Good ws S) {e : Ent} (he : e ∈ S.ents) : alGet (al S T) e.n = (T.ents.find? fun f => decide (f.id = e.id)).map (·.n) := alGet_of G.rise he
theorem al_some (G : Good ws S) {n m : Int} (h : alGet (al S T) n = some m) : ∃ e ∈ S.ents, ∃ f ∈ T.ents, e.n = n ∧ f.n = m ∧ f.id = e.id := by
  by_cases hn : ∃ e ∈ S.ents, e.n = n
  · obtain ⟨e, he, rfl⟩ := hn
    rw [al_get G he] at h
    obtain ⟨f, hf, rfl⟩ := Option.map_eq_some_iff.mp h
    exact ⟨e, he, f, (findD hf).2, rfl, rfl, (findD hf).1⟩
  · unfold al at h
    rw [alGet_none fun e he z => hn ⟨e, he, z⟩] at h
    cases h
theorem alE_len {T : Wo} {l : List Ent} : (alE T l).length ≤ l.length := List.length_filterMap_le _ _
/-- elders mapped -/
def alMap (l : List (Int × Int)) (el : List Int) : List Int := el.map fun k => (alGet l k).getD 0
theorem elds_map_al (G : Good ws S) {l : List Ent} (hl : ∀ e ∈ l, e ∈ S.ents) (hp : l.Pairwise fun e f => e.n < f.n) : ∀ {el ei : List Int}, Elds S el ei → (∀ k ∈ el, (alGet (alE T l) k).isSome) → Elds T (alMap (alE T l) el) ei
  | _, _, .nil, _ => .nil
  | _, _, .cons (a := k) h t, hs => by
    obtain ⟨f, hf, e1, e2⟩ := h
    have h0 := hs k List.mem_cons_self
    have ih := elds_map_al G hl hp t fun j hj => hs j (List.mem_cons_of_mem _ hj)
    refine .cons ?_ ih
    obtain ⟨m, hm⟩ := Option.isSome_iff_exists.mp h0
    have hfl : f ∈ l := by
      by_cases z : ∃ e ∈ l, e.n = k
      · obtain ⟨e, he, ek⟩ := z
        rw [G.uniq hf (hl e he) (e1.trans ek.symm)]
        exact he
      · rw [alGet_none fun e he ek => z ⟨e, he, ek⟩] at hm
        cases hm
    have hm2 := hm
    rw [← e1, alGet_of hp hfl] at hm
    obtain ⟨g, hg, e3⟩ := Option.map_eq_some_iff.mp hm
    refine ⟨g, (findD hg).2, ?_, (findD hg).1.trans e2⟩
    show g.n = (alGet (alE T l) k).getD 0
    rw [hm2]
    exact e3
/-- one turn of alike_makes: its elders are all alike -/
theorem al_turn (G : Good ws S) (G' : Good ws T) {l : List Ent} {e : Ent} (hl : ∀ e ∈ l, e ∈ S.ents) (hp : l.Pairwise fun e f => e.n < f.n) (he : e ∈ S.ents) (hs : ∀ k ∈ e.el, (alGet (alE T l) k).isSome) :
    T.find e.st (alMap (alE T l) e.el) e.wd = (T.ents.find? fun f => decide (f.id = e.id)).map (·.n) :=
  G'.find_id (elds_map_al G hl hp (G.el e he) hs) (G.wid e he).1 (G.wid e he).2 (fun _ _ h => h) G.wnd
/-- .. or it is like none -/
theorem al_turn_no (G : Good ws S) (G' : Good ws T) {l : List Ent} {e : Ent} (hp : l.Pairwise fun e f => e.n < f.n) (hb : ∀ f ∈ S.ents, f.n < e.n → f ∈ l) (he : e ∈ S.ents) (hs : ¬ ∀ k ∈ e.el, (alGet (alE T l) k).isSome) :
    T.ents.find? (fun f => decide (f.id = e.id)) = none := by
  cases q : T.ents.find? (fun f => decide (f.id = e.id)) with
  | none => rfl
  | some f =>
    exfalso
    apply hs
    obtain ⟨h1, hf⟩ := findD q
    have w := G'.id_world G hf he h1
    obtain ⟨_, hei, _⟩ := mk3_inj w
    have key : ∀ {el ei fl : List Int}, Elds S el ei → Elds T fl ei → (∀ k ∈ el, k < e.n) → ∀ k ∈ el, (alGet (alE T l) k).isSome := by
      intro el ei fl h
      induction h generalizing fl with
      | nil => intro _ _ k hk; cases hk
      | cons h t ih =>
        intro h2 lt k hk
        cases h2 with
        | cons h' t' =>
          rcases List.mem_cons.mp hk with ek | hk
          · subst ek
            obtain ⟨g, hg, rfl, e2⟩ := h
            obtain ⟨g', hg', _, e2'⟩ := h'
            rw [alGet_of hp (hb g hg (lt _ List.mem_cons_self)), Option.isSome_map]
            exact List.find?_isSome.mpr ⟨g', hg', decide_eq_true (e2'.trans e2.symm)⟩
          · exact ih t' (fun j hj => lt j (List.mem_cons_of_mem _ hj)) k hk
    exact key (G.el e he) (by rw [← hei]; exact G'.el f hf) (G.old e he)
/-! what lacks -/
noncomputable def lack (S T : Wo) (st : List Int) : List Int := (line S st).filter fun n => (alGet (al S T) n).isNone
theorem lack_head (G : Good ws S) {n : Int} {r : List Int} (h : lack S T st = n :: r) : ∃ e ∈ S.ents, e.n = n ∧ (∀ k ∈ e.el, (alGet (al S T) k).isSome) ∧ alGet (al S T) n = none := by
  have hm : n ∈ lack S T st := by rw [h]; exact List.mem_cons_self
  obtain ⟨h1, h2⟩ := List.mem_filter.mp hm
  obtain ⟨e, he, rfl⟩ := Wo.mem_nums.mp (line_mem.mp h1).1
  refine ⟨e, he, rfl, fun k hk => ?_, Option.isNone_iff_eq_none.mp h2⟩
  cases q : alGet (al S T) k with
  | some m => rfl
  | none =>
    exfalso
    have hk2 : k ∈ lack S T st := List.mem_filter.mpr ⟨line_elders G he h1 hk, by rw [q]; rfl⟩
    have rise : (lack S T st).Pairwise (· < ·) := (line_rise G).filter _
    have lt := G.old e he k hk
    rw [h] at hk2 rise
    rcases List.mem_cons.mp hk2 with z | z
    · omega
    · have := (List.pairwise_cons.mp rise).1 k z
      omega
/-- the put of what lacks first -/
theorem lack_put (G : Good ws S) (G' : Good ws T) {n : Int} {r : List Int} (h : lack S T st = n :: r) {e : Ent} (he : e ∈ S.ents) (en : e.n = n) {el : List Int} (hl : Elds T el e.ei) :
    T.put e.st el e.wd e.id e.ei = ({ T with ents := T.ents ++ [⟨T.next, e.st, el, e.wd, e.id, e.ei⟩], next := T.next + 1 }, T.next) ∧ lack S (T.put e.st el e.wd e.id e.ei).1 st = r := by
  obtain ⟨e0, he0, en0, _, hn⟩ := lack_head G h
  have : e0 = e := G.uniq he0 he (en0.trans en.symm)
  subst this
  have hno : T.ents.find? (fun f => decide (f.id = e0.id)) = none := by
    rw [← en, al_get G he] at hn
    exact Option.map_eq_none_iff.mp hn
  have hf : T.find e0.st el e0.wd = none := by
    rw [G'.find_id hl (G.wid e0 he).1 (G.wid e0 he).2 (fun _ _ h => h) G.wnd, hno]
    rfl
  have hput : T.put e0.st el e0.wd e0.id e0.ei = ({ T with ents := T.ents ++ [⟨T.next, e0.st, el, e0.wd, e0.id, e0.ei⟩], next := T.next + 1 }, T.next) := by
    unfold Wo.put
    rw [hf]
  refine ⟨hput, ?_⟩
  rw [hput]
  have key : ∀ m ∈ line S st, (alGet (al S { T with ents := T.ents ++ [⟨T.next, e0.st, el, e0.wd, e0.id, e0.ei⟩], next := T.next + 1 }) m).isNone = ((alGet (al S T) m).isNone && decide (m ≠ n)) := by
    intro m hm
    obtain ⟨f, hf, rfl⟩ := Wo.mem_nums.mp (line_mem.mp hm).1
    rw [al_get G hf, al_get G hf, Option.isNone_map, Option.isNone_map]
    show (List.find? _ (T.ents ++ [_])).isNone = _
    rw [List.find?_append]
    by_cases z : f.n = n
    · have : f = e0 := G.uniq hf he (z.trans en.symm)
      subst this
      rw [hno]
      simp [z]
    · have ne : ¬ e0.id = f.id := fun y => z (by rw [← G.ids e0 he f hf y]; exact en)
      cases T.ents.find? (fun g => decide (g.id = f.id)) with
      | none => simp [List.find?_cons, ne, z]
      | some g => simp
  have e1 : lack S { T with ents := T.ents ++ [⟨T.next, e0.st, el, e0.wd, e0.id, e0.ei⟩], next := T.next + 1 } st = (lack S T st).filter fun m => decide (m ≠ n) := by
    unfold lack
    rw [List.filter_filter]
    refine List.filter_congr fun m hm => ?_
    rw [key m hm, Bool.and_comm]
  rw [e1, h, List.filter_cons, if_neg (by simp)]
  have rise : (lack S T st).Pairwise (· < ·) := (line_rise G).filter _
  rw [h] at rise
  refine List.filter_eq_self.mpr fun m hm => decide_eq_true ?_
  have := (List.pairwise_cons.mp rise).1 m hm
  omega
end
end Mw

/-! A wood at the heap; Wood's methods. -/
namespace Mw
open PySem PySem.Spec PyProof.Rows L2
structure WF where
  o : Addr
  k : Addr
  kn : Addr
  ca : Addr
def WF.l (F : WF) : List Addr := [F.o, F.k, F.kn, F.ca]
def keptK (es : List (Ent × Addr)) : List (Key × V) := es.map fun p => (Sum.inl p.1.n, V.ref p.2)
def knownN (es : List (Ent × Addr)) : List NEnt := es.map fun p => (madeK p.1, p.2, p.1.n)
def calledK (ns : Nms) : List (Key × V) := ns.map fun p => (Sum.inr p.1, V.int p.2)
def woodFs (F : WF) (n : Int) : List (Str × V) := [("kept", .ref F.k), ("known", .ref F.kn), ("coming", .int n), ("called", .ref F.ca)]
structure WoodAt (P : Program) (w : World) (K : PySem.W.Frag) (H : Hp) (F : WF) (S : Wo) : Prop where
  obj : ∃ dx, H F.o = some (.ins (He.ga K "Wood") dx (woodFs F S.next))
  parts : ∃ es : List (Ent × Addr), es.map (·.1) = S.ents ∧ H F.k = some (.dK (keptK es)) ∧ NdAt P w H F.kn (knownN es)
  called : H F.ca = some (.dK (calledK S.names))
  nd : F.k ≠ F.ca
section
variable {P : Program} {w : World} {K : PySem.W.Frag} {mg : Str → Option Value} {base : Heap}
variable {H H' : Hp} {F : WF} {S : Wo}
theorem WoodAt.kp {X : List Addr} (W : WoodAt P w K H F S) (k : Kp X H H') (h : ∀ a ∈ F.l, a ∉ X) : WoodAt P w K H' F S := by
  obtain ⟨dx, ho⟩ := W.obj
  obtain ⟨es, h1, h2, h3⟩ := W.parts
  exact ⟨⟨dx, k.at ho (h _ (by simp [WF.l]))⟩, ⟨es, h1, k.at h2 (h _ (by simp [WF.l])), h3.kp k (h _ (by simp [WF.l]))⟩, k.at W.called (h _ (by simp [WF.l])), W.nd⟩
theorem WoodAt.same (W : WoodAt P w K H F S) (k : Same H H') : WoodAt P w K H' F S := W.kp (X := []) (.same k) (by simp)
theorem keptK_get {es : List (Ent × Addr)} {n : Int} : valV (keptK es) (Sum.inl n) = (es.find? fun p => decide (p.1.n = n)).map fun p => V.ref p.2 := by
  unfold keptK
  induction es with
  | nil => rfl
  | cons p r ih =>
    rw [List.map_cons, List.find?_cons]
    by_cases h : p.1.n = n
    · rw [valV_pos (by rw [h]), decide_eq_true h]
      rfl
    · rw [valV_neg (by intro z; exact h (Sum.inl.inj z)), decide_eq_false h]
      exact ih
theorem keptK_some {es : List (Ent × Addr)} {n : Int} : (valV (keptK es) (Sum.inl n)).isSome = decide (n ∈ (es.map (·.1)).map (·.n)) := by
  rw [keptK_get, Option.isSome_map]
  by_cases h : n ∈ (es.map (·.1)).map (·.n)
  · rw [decide_eq_true h]
    obtain ⟨e, he, rfl⟩ := List.mem_map.mp h
    obtain ⟨p, hp, rfl⟩ := List.mem_map.mp he
    exact List.find?_isSome.mpr ⟨p, hp, decide_eq_true rfl⟩
  · rw [decide_eq_false h]
    cases q : es.find? fun p => decide (p.1.n = n) with
    | none => rfl
    | some p => exact absurd (List.mem_map.mpr ⟨p.1, List.mem_map.mpr ⟨p, (findD q).2, rfl⟩, (findD q).1⟩) h
theorem calledK_get {ns : Nms} {x : Str} : valV (calledK ns) (Sum.inr x) = (getN ns x).map V.int := by
  unfold calledK getN
  induction ns with
  | nil => rfl
  | cons p r ih =>
    rw [List.map_cons, List.find?_cons]
    by_cases h : p.1 = x
    · rw [valV_pos (by rw [h]), decide_eq_true h]
      rfl
    · rw [valV_neg (by intro z; exact h (Sum.inr.inj z)), decide_eq_false h]
      exact ih
theorem calledK_put {ns : Nms} {x : Str} {n : Int} : putK (calledK ns) (Sum.inr x) (.int n) = calledK (setN ns x n) := by
  unfold putK setN calledK
  have e : ((ns.map fun p => ((Sum.inr p.1 : Key), V.int p.2)).any fun kv => decide (kv.1 = Sum.inr x)) = ns.any fun p => decide (p.1 = x) := by
    rw [List.any_map]
    congr 1
    funext p
    exact decide_eq_decide.mpr ⟨fun z => Sum.inr.inj z, fun z => by show Sum.inr p.1 = Sum.inr x; rw [z]⟩
  rw [e]
  split
  · rw [List.map_map, List.map_map]
    refine List.map_congr_left fun p _ => ?_
    by_cases h : p.1 = x
    · simp [h]
    · simp [h]
  · rw [List.map_append]
    rfl
theorem calledK_drop {ns : Nms} {x : Str} : dropK (calledK ns) (Sum.inr x) = calledK (dropN ns x) := by
  unfold dropK calledK dropN
  rw [List.filter_map]
  congr 1
  refine List.filter_congr fun p _ => ?_
  show decide (Sum.inr p.1 ≠ Sum.inr x) = _
  exact decide_eq_decide.mpr ⟨fun z y => z (by rw [y]), fun z y => z (Sum.inr.inj y)⟩
theorem calledK_keys {ns : Nms} : (calledK ns).map (·.1) = (ns.map (·.1)).map Sum.inr := by
  unfold calledK
  rw [List.map_map, List.map_map]
  rfl
theorem nval_known {es : List (Ent × Addr)} {st : NestedKey} {el : List Int} {wd : Str} : nval (knownN es) (mk3 st el wd) = ((es.map (·.1)).find? fun e => decide (madeK e = mk3 st el wd)).map (·.n) := by
  unfold nval knownN
  induction es with
  | nil => rfl
  | cons p r ih =>
    rw [List.map_cons, List.map_cons, List.find?_cons, List.find?_cons]
    by_cases h : madeK p.1 = mk3 st el wd
    · rw [decide_eq_true h]
      rfl
    · rw [decide_eq_false h]
      exact ih
theorem made_at {st : NestedKey} {el : List Int} {wd : Str} {a : Addr} (h : Dt H (mk3 st el wd) (.ref a)) : ∃ v b, H a = some (.tup [v, .ref b, .str wd]) ∧ Dt H st v ∧ H b = some (.tup (el.map V.int)) := by
  obtain ⟨a', vs, ea, ha, v1, _, rfl, d1, v2, _, rfl, ⟨b, ws, rfl, hb, dn⟩, v3, _, rfl, d3, rfl⟩ := h
  cases ea
  obtain rfl := dn.nums_inv
  obtain rfl : v3 = .str wd := d3
  exact ⟨v1, b, ha, d1, hb⟩
theorem made_of {st : NestedKey} {el : List Int} {wd : Str} {a b : Addr} {v : V} (ha : H a = some (.tup [v, .ref b, .str wd])) (hv : Dt H st v) (hb : H b = some (.tup (el.map V.int))) : Dt H (mk3 st el wd) (.ref a) :=
  ⟨a, _, rfl, ha, v, _, rfl, hv, _, _, rfl, ⟨b, _, rfl, hb, DtAll.nums el⟩, _, _, rfl, rfl, rfl⟩
/-! promises -/
def spIsThere (P : Program) (w : World) (K : PySem.W.Frag) : Sp := fun vs H Q _ => ∃ F S n, vs = [.ref F.o, .int n] ∧ WoodAt P w K H F S ∧ Q (.bl (decide (n ∈ S.nums))) H
def spMakeAt (P : Program) (w : World) (K : PySem.W.Frag) : Sp := fun vs H Q _ => ∃ F S n, vs = [.ref F.o, .int n] ∧ WoodAt P w K H F S ∧ n ∈ S.nums ∧ ∀ e ∈ S.ents, e.n = n → ∀ a, Dt H (madeK e) (.ref a) → Q (.ref a) H
def spStandOf (P : Program) (w : World) (K : PySem.W.Frag) : Sp := fun vs H Q _ => ∃ F S n, vs = [.ref F.o, .int n] ∧ WoodAt P w K H F S ∧ n ∈ S.nums ∧ ∀ e ∈ S.ents, e.n = n → ∀ v, Dt H e.st v → Q v H
def spEldersOf (P : Program) (w : World) (K : PySem.W.Frag) : Sp := fun vs H Q _ => ∃ F S n, vs = [.ref F.o, .int n] ∧ WoodAt P w K H F S ∧ n ∈ S.nums ∧ ∀ e ∈ S.ents, e.n = n → ∀ a, H a = some (.tup (e.el.map V.int)) → Q (.ref a) H
def spWordsOf (P : Program) (w : World) (K : PySem.W.Frag) : Sp := fun vs H Q _ => ∃ F S n, vs = [.ref F.o, .int n] ∧ WoodAt P w K H F S ∧ n ∈ S.nums ∧ ∀ e ∈ S.ents, e.n = n → Q (.str e.wd) H
def spMakes (P : Program) (w : World) (K : PySem.W.Frag) : Sp := fun vs H Q _ => ∃ F S ws, vs = [.ref F.o] ∧ WoodAt P w K H F S ∧ Good ws S ∧ ∀ p, H p = none → Q (.ref p) (upd H p (.lst (S.nums.map V.int)))
theorem ok_is_there (T : Tx K mg) : OkM P w K mg base CX0 1 "Wood" "is_there" ["self", "number"] (spIsThere P w K) := by
  refine T.fWoodIsThere.ok scWoodIsThere (fun vs H Q E h => ?_) (fun cdv A outer s H vs Q E hr h => ?_)
  · obtain ⟨F, S, n, rfl, _⟩ := h
    rfl
  · obtain ⟨F, S, n, rfl, W, q⟩ := h
    obtain ⟨dx, ho⟩ := W.obj
    obtain ⟨es, h1, h2, h3⟩ := W.parts
    refine ⟨_, PSs.nox (pss_one (ps_ret (pe_and (pe_is .int (pv 1) T.b_isinstance T.b_int) (pe_and (pe_not (pe_is .bl (pv 1) T.b_isinstance T.b_bool)) (pe_one (pe_cmp (pc_din (hu_of hr) (pv 1) (pe_fld (pv 0) rfl)))))))), ?_⟩
    refine ⟨_, rfl, _, _, rfl, .int _, _, rfl, iteT ⟨_, rfl, _, _, rfl, .int _, _, rfl, _, rfl, iteT ?_⟩⟩
    refine ⟨_, rfl, _, rfl, _, _, _, _, _, rfl, ho, T.c_Wood, T.n_kept, rfl, _, _, rfl, DGet.k (k := Sum.inl n) h2, ?_⟩
    rw [keptK_some, h1]
    exact q
theorem ok_make_at (T : Tx K mg) : OkM P w K mg base CX0 2 "Wood" "make_at" ["self", "number"] (spMakeAt P w K) := by
  refine T.fWoodMakeAt.ok scWoodMakeAt (fun vs H Q E h => ?_) (fun cdv A outer s H vs Q E hr h => ?_)
  · obtain ⟨F, S, n, rfl, _⟩ := h
    rfl
  · obtain ⟨F, S, n, rfl, W, hn, q⟩ := h
    obtain ⟨dx, ho⟩ := W.obj
    obtain ⟨es, h1, h2, h3⟩ := id W.parts
    refine ⟨_, PSs.nox (pss_cons (ps_if (pt_not (pt_val (pmeth (pv 0) T.dWoodIsThere (ok_is_there T) hr pass0 (pa_cons (pv 1) pa_nil)))) (pss_one ps_never) pss_nil)
      (pss_one (ps_ret (pe_dget (hu_of hr) (pe_fld (pv 0) rfl) (pv 1) (fun _ _ => rfl))))), ?_⟩
    refine ⟨_, rfl, _, _, _, rfl, ho, rfl, _, rfl, F, S, n, rfl, W, _, rfl, ?_⟩
    rw [decide_eq_true hn]
    refine iteF ⟨_, rfl, _, _, _, _, _, rfl, ho, T.c_Wood, T.n_kept, rfl, _, rfl, F.k, ?_⟩
    have hs : (valV (keptK es) (Sum.inl n)).isSome = true := by rw [keptK_some, h1]; exact decide_eq_true hn
    rw [keptK_get, Option.isSome_map] at hs
    obtain ⟨p, hp⟩ := Option.isSome_iff_exists.mp hs
    have hg : valV (keptK es) (Sum.inl n) = some (V.ref p.2) := by rw [keptK_get, hp]; rfl
    have hm := (findD hp).2
    refine ⟨.ref p.2, rfl, by rw [← hg]; exact DGet.k (k := Sum.inl n) h2, ?_⟩
    exact q p.1 (by rw [← h1]; exact List.mem_map_of_mem hm) (findD hp).1 p.2 (h3.keys _ (List.mem_map_of_mem hm)).1
theorem ok_stand_of (T : Tx K mg) : OkM P w K mg base CX0 3 "Wood" "stand_of" ["self", "number"] (spStandOf P w K) := by
  refine T.fWoodStandOf.ok scWoodStandOf (fun vs H Q E h => ?_) (fun cdv A outer s H vs Q E hr h => ?_)
  · obtain ⟨F, S, n, rfl, _⟩ := h
    rfl
  · obtain ⟨F, S, n, rfl, W, hn, q⟩ := h
    obtain ⟨dx, ho⟩ := W.obj
    refine ⟨_, PSs.nox (pss_one (ps_ret (pe_ix ix_tup (pmeth (pv 0) T.dWoodMakeAt (ok_make_at T) hr pass0 (pa_cons (pv 1) pa_nil)) pe_int (fun _ _ => rfl)))), ?_⟩
    refine ⟨_, rfl, _, _, _, rfl, ho, rfl, _, rfl, F, S, n, rfl, W, hn, fun e he en a hd => ?_⟩
    obtain ⟨v1, b, ha, d1, hb⟩ := made_at hd
    exact ⟨_, _, _, _, rfl, rfl, SqT.of ha, atI_nat (j := 0) rfl, q e he en _ d1⟩
theorem ok_elders_of (T : Tx K mg) : OkM P w K mg base CX0 3 "Wood" "elders_of" ["self", "number"] (spEldersOf P w K) := by
  refine T.fWoodEldersOf.ok scWoodEldersOf (fun vs H Q E h => ?_) (fun cdv A outer s H vs Q E hr h => ?_)
  · obtain ⟨F, S, n, rfl, _⟩ := h
    rfl
  · obtain ⟨F, S, n, rfl, W, hn, q⟩ := h
    obtain ⟨dx, ho⟩ := W.obj
    refine ⟨_, PSs.nox (pss_one (ps_ret (pe_ix ix_tup (pmeth (pv 0) T.dWoodMakeAt (ok_make_at T) hr pass0 (pa_cons (pv 1) pa_nil)) pe_int (fun _ _ => rfl)))), ?_⟩
    refine ⟨_, rfl, _, _, _, rfl, ho, rfl, _, rfl, F, S, n, rfl, W, hn, fun e he en a hd => ?_⟩
    obtain ⟨v1, b, ha, d1, hb⟩ := made_at hd
    exact ⟨_, _, _, _, rfl, rfl, SqT.of ha, atI_nat (j := 1) rfl, q e he en _ hb⟩
theorem ok_words_of (T : Tx K mg) : OkM P w K mg base CX0 3 "Wood" "words_of" ["self", "number"] (spWordsOf P w K) := by
  refine T.fWoodWordsOf.ok scWoodWordsOf (fun vs H Q E h => ?_) (fun cdv A outer s H vs Q E hr h => ?_)
  · obtain ⟨F, S, n, rfl, _⟩ := h
    rfl
  · obtain ⟨F, S, n, rfl, W, hn, q⟩ := h
    obtain ⟨dx, ho⟩ := W.obj
    refine ⟨_, PSs.nox (pss_one (ps_ret (pe_ix ix_tup (pmeth (pv 0) T.dWoodMakeAt (ok_make_at T) hr pass0 (pa_cons (pv 1) pa_nil)) pe_int (fun _ _ => rfl)))), ?_⟩
    refine ⟨_, rfl, _, _, _, rfl, ho, rfl, _, rfl, F, S, n, rfl, W, hn, fun e he en a hd => ?_⟩
    obtain ⟨v1, b, ha, d1, hb⟩ := made_at hd
    exact ⟨_, _, _, _, rfl, rfl, SqT.of ha, atI_nat (j := 2) rfl, q e he en⟩
theorem keptK_keys {es : List (Ent × Addr)} : (keptK es).map (·.1) = ((es.map (·.1)).map (·.n)).map Sum.inl := by
  unfold keptK
  rw [List.map_map, List.map_map, List.map_map]
  rfl
theorem ok_makes (T : Tx K mg) : OkM P w K mg base CX0 1 "Wood" "makes" ["self"] (spMakes P w K) := by
  refine T.fWoodMakes.ok scWoodMakes (fun vs H Q E h => ?_) (fun cdv A outer s H vs Q E hr h => ?_)
  · obtain ⟨F, S, ws, rfl, _⟩ := h
    rfl
  · obtain ⟨F, S, ws, rfl, W, G, q⟩ := h
    obtain ⟨dx, ho⟩ := W.obj
    obtain ⟨es, h1, h2, h3⟩ := id W.parts
    refine ⟨_, PSs.nox (pss_one (ps_ret (pe_callB (call_sortDI rfl) (by rfl) T.b_sorted (by decide +kernel) (pa_cons (pe_fld (pv 0) rfl) pa_nil)))), ?_⟩
    refine ⟨_, rfl, _, _, _, _, _, rfl, ho, T.c_Wood, T.n_kept, rfl, _, _, _, rfl, .inl h2, keptK_keys, fun ys p hp hs np => ?_⟩
    have e : ys = S.nums := by
      rw [h1] at hp
      exact List.Perm.eq_of_pairwise (le := fun a b : Int => a ≤ b) (fun a b _ _ x y => Int.le_antisymm x y) hs (G.nums_rise.imp Int.le_of_lt) hp
    rw [e]
    exact q p np
end
end Mw

/-! Wood.put. -/
namespace Mw
open PySem PySem.Spec PyProof.Rows L2
theorem depthAll_le {d : Nat} : ∀ {ks : List NestedKey}, (∀ k ∈ ks, k.depth ≤ d) → NestedKey.depthAll ks ≤ d
  | [], _ => Nat.zero_le _
  | k :: ks, h => by
    have a := h k List.mem_cons_self
    have b := depthAll_le fun j hj => h j (List.mem_cons_of_mem _ hj)
    show max k.depth (NestedKey.depthAll ks) ≤ d
    omega
theorem depth_tup {d : Nat} {ks : List NestedKey} (h : ∀ k ∈ ks, k.depth ≤ d) : (NestedKey.tup ks).depth ≤ d + 1 := Nat.succ_le_succ (depthAll_le h)
theorem depth_flat (xs : List Str) : (flatK xs).depth ≤ 1 := depth_tup fun k hk => by
  obtain ⟨x, _, rfl⟩ := List.mem_map.mp hk
  exact Nat.le_refl _
theorem depth_nums (xs : List Int) : (NestedKey.tup (xs.map .num)).depth ≤ 1 := depth_tup fun k hk => by
  obtain ⟨x, _, rfl⟩ := List.mem_map.mp hk
  exact Nat.le_refl _
theorem depth_clash {b p q : NestedKey} {d : Nat} (h1 : b.depth ≤ d) (h2 : p.depth ≤ d) (h3 : q.depth ≤ d) : (clashK b p q).depth ≤ d + 2 := depth_tup fun k hk => by
  rcases List.mem_cons.mp hk with rfl | hk
  · exact Nat.zero_le _
  rcases List.mem_cons.mp hk with rfl | hk
  · omega
  obtain rfl := List.mem_singleton.mp hk
  refine depth_tup fun k hk => ?_
  rcases List.mem_cons.mp hk with rfl | hk
  · exact h2
  obtain rfl := List.mem_singleton.mp hk
  exact h3
theorem GoodItem.depth {k : NestedKey} (h : GoodItem k) : k.depth ≤ 3 := by
  rcases h with ⟨x, rfl, _⟩ | ⟨b, p, q, rfl, _⟩
  · exact Nat.zero_le _
  · exact depth_clash (depth_flat _) (depth_flat _) (depth_flat _)
theorem GoodPlace.depth {k : NestedKey} (h : GoodPlace k) : k.depth ≤ 0 := by
  rcases h with rfl | ⟨x, rfl, _⟩ <;> exact Nat.le_refl _
theorem GoodWhere.depth {k : NestedKey} (h : GoodWhere k) : k.depth ≤ 2 := by
  rcases h with ⟨x, rfl, _⟩ | ⟨b, p, q, rfl, h1, h2, h3, _⟩
  · exact Nat.zero_le _
  · exact depth_clash h1.depth h2.depth h3.depth
theorem GoodStand.depth {k : NestedKey} (h : GoodStand k) : k.depth ≤ 6 := by
  obtain ⟨rs, rfl, _, h⟩ := h
  refine depth_tup fun k hk => ?_
  obtain ⟨r, hr, rfl⟩ := List.mem_map.mp hk
  obtain ⟨h1, h2⟩ := h r hr
  refine depth_tup fun k hk => ?_
  rcases List.mem_cons.mp hk with rfl | hk
  · exact Nat.zero_le _
  rcases List.mem_cons.mp hk with rfl | hk
  · have := h1.depth
    omega
  obtain rfl := List.mem_singleton.mp hk
  exact depth_tup fun k hk => (h2.2 k hk).depth
theorem depth_made {st : NestedKey} (h : GoodStand st) (el : List Int) (wd : Str) : (mk3 st el wd).depth ≤ 8 := by
  have : (mk3 st el wd).depth ≤ 6 + 1 := by
    refine depth_tup fun k hk => ?_
    rcases List.mem_cons.mp hk with rfl | hk
    · exact h.depth
    rcases List.mem_cons.mp hk with rfl | hk
    · have := depth_nums el
      omega
    obtain rfl := List.mem_singleton.mp hk
    exact Nat.zero_le _
  omega
section
variable {P : Program} {w : World} {K : PySem.W.Frag} {mg : Str → Option Value} {base : Heap}
variable {H H' : Hp} {F : WF} {S : Wo}
theorem putF_coming {F : WF} {n m : Int} : putF "coming" (.int m) (woodFs F n) = woodFs F m := rfl
def spPut (P : Program) (w : World) (K : PySem.W.Frag) : Sp := fun vs H Q _ => ∃ F S st v el b wd ix ei, vs = [.ref F.o, v, .ref b, .str wd] ∧ WoodAt P w K H F S ∧ Dt H st v ∧ GoodStand st ∧ H b = some (.tup (el.map V.int)) ∧ (∀ k ∈ el, k ∈ S.nums) ∧ S.ents.length < 1000000 ∧ (∀ e ∈ S.ents, e.n < S.next) ∧
  ∀ H', Kp F.l H H' → WoodAt P w K H' F (S.put st el wd ix ei).1 → Q (.int (S.put st el wd ix ei).2) H'
theorem lists_of {α β : Type} {xs : List α} {ys : List β} {f : α → β} (h : xs.map f = ys) : ys.length = xs.length := by rw [← h, List.length_map]
theorem ok_put (T : Tx K mg) : OkM P w K mg base CX0 9 "Wood" "put" ["self", "stand", "elders", "words"] (spPut P w K) := by
  refine T.fWoodPut.ok scWoodPut (fun vs H Q E h => ?_) (fun cdv A outer s H vs Q E hr h => ?_)
  · obtain ⟨F, S, st, v, el, b, wd, ix, ei, rfl, _⟩ := h
    rfl
  · obtain ⟨F, S, st, v, el, b, wd, ix, ei, rfl, W, hd, gs, hb, hel, hlen, hnx, q⟩ := h
    refine ⟨_, PSs.nox (pss_cons (ps_if (pt_not (pt_val (pcall T.dIsStand (ok_stand T) hr pass0 (pa_cons (pv 1) pa_nil)))) (pss_one ps_never) pss_nil)
      (pss_cons (ps_for PassesOwn.never rfl (pi_tup (pv 2)) (pg_name (i := 4) scWoodPut.nd rfl (Or.inl rfl)) (pss_one (ps_expr (pmeth (pv 0) T.dWoodMakeAt (ok_make_at T) (hr.mono (by decide)) pass0 (pa_cons (pv 4) pa_nil)))))
      (pss_cons (ps_set (i := 5) scWoodPut.nd rfl (Or.inl rfl) (pe_tup (pa_cons (pv 1) (pa_cons (pe_callTy call_tupleT (by rfl) T.b_tuple (by decide +kernel) (pa_cons (pv 2) pa_nil)) (pa_cons (pv 3) pa_nil)))))
      (pss_cons (ps_if (pt_cmp (pc_nnotin hr.units (pv 5) (pe_fld (pv 0) rfl)))
        (pss_cons (ps_nput hr.units (pe_fld (pv 0) rfl) (pv 5) (pe_fld (pv 0) rfl) rfl)
        (pss_cons (ps_dput (hu_of hr) (pe_fld (pv 0) rfl) (pe_fld (pv 0) rfl) (pv 5) rfl)
        (pss_one (ps_fldaug (pv 0) pe_int in_add)))) pss_nil)
      (pss_one (ps_ret (pe_nget hr.units (pe_fld (pv 0) rfl) (pv 5) (fun _ _ => rfl)))))))), ?_⟩
    refine ⟨_, rfl, ⟨st, v, rfl, hd, gs⟩, fun H1 s1 => ⟨_, rfl, iteF ?_⟩⟩
    refine ⟨_, rfl, b, rfl, ⟨_, SqT.of (s1 _ _ hb)⟩, for_wk (S := []) (Wk.tup (SqT.of (s1 _ _ hb))) (fun i σ H2 => Same H1 H2 ∧ ∃ x, σ = [some (.ref F.o), some v, some (.ref b), some (.str wd), x, none]) ⟨Same.refl _, none, rfl⟩ (fun i σ H2 h => .same h.1) ?_ ?_⟩
    · rintro i x σ H2 H3 hi ⟨s2, y, rfl⟩ s3 hx
      have hx' := hx
      rw [List.getElem?_map] at hx'
      obtain ⟨k, hk, rfl⟩ := Option.map_eq_some_iff.mp hx'
      have W3 := (W.same s1).same (s2.trans s3)
      obtain ⟨dx, ho⟩ := W3.obj
      exact ⟨_, rfl, _, _, _, rfl, ho, rfl, _, rfl, F, S, k, rfl, W3, hel k (List.mem_of_getElem? hk), fun e he en a ha => ⟨s2.trans s3, _, rfl⟩⟩
    · rintro σ H2 ⟨s2, x, rfl⟩
      have W2 := (W.same s1).same s2
      have hb2 := s2 _ _ (s1 _ _ hb)
      have hd2 := (hd.same s1).same s2
      refine ⟨_, rfl, _, rfl, _, _, rfl, SqT.of hb2, _, rfl, by show 3 ≤ sizeLine; decide, fun t ht => ?_⟩
      have s3 := Same.new (o := .tup [v, .ref b, .str wd]) ht
      generalize hH3 : upd H2 t (.tup [v, .ref b, .str wd]) = H3 at s3
      have ht3 : H3 t = some (.tup [v, .ref b, .str wd]) := by rw [← hH3]; exact upd_same
      have W3 := W2.same s3
      obtain ⟨dx, ho⟩ := W3.obj
      obtain ⟨es, h1, h2, h3⟩ := id W3.parts
      have hc := W3.called
      have dm : Dt H3 (mk3 st el wd) (.ref t) := made_of ht3 (hd2.same s3) (s3 _ _ hb2)
      have dp := depth_made gs el wd
      have k3 : Kp F.l H H3 := .same ((s1.trans s2).trans s3)
      refine ⟨_, rfl, _, rfl, _, _, _, _, _, rfl, ho, T.c_Wood, T.n_known, rfl, F.kn, t, knownN es, mk3 st el wd, rfl, rfl, h3, dm, dp, _, rfl, ?_⟩
      have hn := nval_known (es := es) (st := st) (el := el) (wd := wd)
      rw [h1] at hn
      have hn : nval (knownN es) (mk3 st el wd) = S.find st el wd := hn
      cases hf : S.find st el wd with
      | some n =>
        rw [hf] at hn
        rw [hn]
        refine iteF ⟨_, rfl, _, _, _, _, _, rfl, ho, T.c_Wood, T.n_known, rfl, _, rfl, F.kn, t, knownN es, mk3 st el wd, n, rfl, rfl, h3, dm, dp, hn, ?_⟩
        have e : S.put st el wd ix ei = (S, n) := by
          unfold Wo.put
          rw [hf]
        rw [e] at q
        exact q H3 k3 W3
      | none =>
        rw [hf] at hn
        rw [hn]
        have e : S.put st el wd ix ei = ({ S with ents := S.ents ++ [⟨S.next, st, el, wd, ix, ei⟩], next := S.next + 1 }, S.next) := by
          unfold Wo.put
          rw [hf]
        rw [e] at q
        have hl : es.length = S.ents.length := by rw [← h1, List.length_map]
        have o_kn : F.o ≠ F.kn := ne_of ho h3.at_ (by intro z; cases z)
        have o_k : F.o ≠ F.k := ne_of ho h2 (by intro z; cases z)
        have o_ca : F.o ≠ F.ca := ne_of ho hc (by intro z; cases z)
        have kn_k : F.kn ≠ F.k := ne_of h3.at_ h2 (by intro z; cases z)
        have kn_ca : F.kn ≠ F.ca := ne_of h3.at_ hc (by intro z; cases z)
        refine iteT ⟨_, rfl, _, _, _, _, _, rfl, ho, T.c_Wood, T.n_coming, rfl, _, rfl, _, _, _, _, _, rfl, ho, T.c_Wood, T.n_known, rfl, _, rfl, F.kn, t, knownN es, mk3 st el wd, S.next, rfl, rfl, rfl, h3, dm, dp, hn, ?_⟩
        let H4 : Hp := upd H3 F.kn (NdO P w F.kn (knownN es ++ [(mk3 st el wd, t, S.next)]))
        have k4 : Kp F.l H3 H4 := Kp.put h3.at_ nkpt (by simp [WF.l])
        have m4 : NdAt P w H4 F.kn (knownN (es ++ [(⟨S.next, st, el, wd, ix, ei⟩, t)])) := by
          have ee : knownN (es ++ [(⟨S.next, st, el, wd, ix, ei⟩, t)]) = knownN es ++ [(mk3 st el wd, t, S.next)] := by
            unfold knownN
            rw [List.map_append]
            rfl
          rw [ee]
          refine ⟨upd_same, fun x hx => ?_, ?_⟩
          · rcases List.mem_append.mp hx with hx | hx
            · exact ⟨(h3.keys x hx).1.kp k4, (h3.keys x hx).2⟩
            · rw [List.mem_singleton.mp hx]
              exact ⟨dm.kp k4, dp⟩
          · rw [List.length_append]
            show (List.map _ es).length + 1 < sizeLine
            rw [List.length_map, sizeLine_eq]
            omega
        have ho4 : H4 F.o = some (.ins (He.ga K "Wood") dx (woodFs F S.next)) := (upd_ne o_kn).trans ho
        have h24 : H4 F.k = some (.dK (keptK es)) := (upd_ne kn_k.symm).trans h2
        have hc4 : H4 F.ca = some (.dK (calledK S.names)) := (upd_ne kn_ca.symm).trans hc
        refine ⟨_, rfl, _, rfl, _, _, _, _, _, rfl, ho4, T.c_Wood, T.n_kept, rfl, _, rfl, _, _, _, _, _, rfl, ho4, T.c_Wood, T.n_coming, rfl, F.k, _, rfl, DPut.k (k := Sum.inl S.next) h24 (by unfold keptK; rw [List.length_map, sizeLine_eq]; omega), ?_⟩
        have hnone : valV (keptK es) (Sum.inl S.next) = none := by
          have z : (valV (keptK es) (Sum.inl S.next)).isSome = false := by
            rw [keptK_some, h1]
            refine decide_eq_false fun z => ?_
            obtain ⟨e, he, z⟩ := Wo.mem_nums.mp z
            have := hnx e he
            omega
          exact Option.not_isSome_iff_eq_none.mp (by rw [z]; exact Bool.false_ne_true)
        rw [putK_new _ hnone]
        let H5 : Hp := upd H4 F.k (.dK (keptK es ++ [(Sum.inl S.next, V.ref t)]))
        have k5 : Kp F.l H4 H5 := Kp.put h24 (fun z => z) (by simp [WF.l])
        have m5 : NdAt P w H5 F.kn (knownN (es ++ [(⟨S.next, st, el, wd, ix, ei⟩, t)])) := m4.kp (S := [F.k]) (Kp.put h24 (fun z => z) (by simp)) (by simpa using kn_k)
        have ho5 : H5 F.o = some (.ins (He.ga K "Wood") dx (woodFs F S.next)) := (upd_ne o_k).trans ho4
        have h25 : H5 F.k = some (.dK (keptK es ++ [(Sum.inl S.next, V.ref t)])) := upd_same
        have hc5 : H5 F.ca = some (.dK (calledK S.names)) := (upd_ne W.nd.symm).trans hc4
        refine ⟨_, rfl, _, _, _, _, _, rfl, ho5, T.c_Wood, T.n_coming, rfl, _, _, rfl, rfl, _, _, ho5, by show 4 < 1000; decide, ?_⟩
        rw [putF_coming]
        let H6 : Hp := upd H5 F.o (.ins (He.ga K "Wood") dx (woodFs F (S.next + 1)))
        have k6 : Kp F.l H5 H6 := Kp.put ho5 (fun z => z) (by simp [WF.l])
        have m6 : NdAt P w H6 F.kn (knownN (es ++ [(⟨S.next, st, el, wd, ix, ei⟩, t)])) := m5.kp (S := [F.o]) (Kp.put ho5 (fun z => z) (by simp)) (by simpa using o_kn.symm)
        have ho6 : H6 F.o = some (.ins (He.ga K "Wood") dx (woodFs F (S.next + 1))) := upd_same
        have W6 : WoodAt P w K H6 F { S with ents := S.ents ++ [⟨S.next, st, el, wd, ix, ei⟩], next := S.next + 1 } := by
          refine ⟨⟨dx, ho6⟩, ⟨es ++ [(⟨S.next, st, el, wd, ix, ei⟩, t)], by rw [List.map_append, h1]; rfl, ?_, m6⟩, ?_, W.nd⟩
          · rw [show keptK (es ++ [((⟨S.next, st, el, wd, ix, ei⟩ : Ent), t)]) = keptK es ++ [(Sum.inl S.next, V.ref t)] from by unfold keptK; rw [List.map_append]; rfl]
            exact (upd_ne o_k.symm).trans h25
          · exact (upd_ne o_ca.symm).trans hc5
        have dm6 : Dt H6 (mk3 st el wd) (.ref t) := (dm.kp k4).kp (k5.trans k6)
        have n6 : nval (knownN (es ++ [((⟨S.next, st, el, wd, ix, ei⟩ : Ent), t)])) (mk3 st el wd) = some S.next := by
          rw [nval_known, List.map_append, h1, List.find?_append]
          have z : S.ents.find? (fun e => decide (madeK e = mk3 st el wd)) = none := Option.map_eq_none_iff.mp hf
          rw [z]
          simp [madeK]
        exact ⟨_, rfl, _, _, _, _, _, rfl, ho6, T.c_Wood, T.n_known, rfl, _, rfl, F.kn, t, _, mk3 st el wd, S.next, rfl, rfl, m6, dm6, dp, n6, q H6 (((k3.trans k4).trans k5).trans k6) W6⟩
end
end Mw

/-! NoName's making; Wood's names, number_of, a new wood. -/
namespace Mw
open PySem PySem.Spec PyProof.Rows L2
section
variable {P : Program} {w : World} {K : PySem.W.Frag} {mg : Str → Option Value} {base : Heap}
variable {H H' : Hp} {F : WF} {S : Wo}
def spNoName (K : PySem.W.Frag) : Sp := fun vs H Q _ => ∃ (a : Addr) (x : Str), vs = [.ref a, .str x] ∧ H a = some (exo a (He.ga K "NoName") none) ∧ ∀ dx, H dx = none → dx ≠ a → Q .non (upd (upd H dx (exd dx [("name", .str x)])) a (exo a (He.ga K "NoName") (some dx)))
theorem ok_noname (T : Tx K mg) : OkM P w K mg base CX0 1 "NoName" "__init__" ["self", "name"] (spNoName K) := by
  refine T.fNoNameInit.ok scNoNameInit (fun vs H Q E h => ?_) (fun cdv A outer s H vs Q E hr h => ?_)
  · obtain ⟨a, x, rfl, _⟩ := h
    rfl
  · obtain ⟨a, x, rfl, ha, q⟩ := h
    obtain ⟨t1, t2, t3, t4, t5, t6⟩ := T.ex1
    refine ⟨_, PSs.nox (pss_cons (ps_expr (pe_winit (by rfl) T.g_WoodError t6 (pa_cons (pv 0) (pa_cons pe_str pa_nil)))) (pss_one (ps_ost (pv 0) (pv 1)))), ?_⟩
    exact ⟨_, rfl, a, _, _, rfl, by show 1 ≤ 1000; decide, t1, ha, _, rfl, _, rfl, a, _, rfl, t1, t3, .inl ⟨ha, q⟩⟩
def spNumberOf (P : Program) (w : World) (K : PySem.W.Frag) : Sp := fun vs H Q _ => ∃ F S st v el b wd, vs = [.ref F.o, v, .ref b, .str wd] ∧ WoodAt P w K H F S ∧ Dt H st v ∧ GoodStand st ∧ H b = some (.tup (el.map V.int)) ∧
  ∀ H', Same H H' → Q (((S.find st el wd).map V.int).getD .non) H'
theorem ok_number_of (T : Tx K mg) : OkM P w K mg base CX0 1 "Wood" "number_of" ["self", "stand", "elders", "words"] (spNumberOf P w K) := by
  refine T.fWoodNumberOf.ok scWoodNumberOf (fun vs H Q E h => ?_) (fun cdv A outer s H vs Q E hr h => ?_)
  · obtain ⟨F, S, st, v, el, b, wd, rfl, _⟩ := h
    rfl
  · obtain ⟨F, S, st, v, el, b, wd, rfl, W, hd, gs, hb, q⟩ := h
    obtain ⟨dx, ho⟩ := W.obj
    refine ⟨_, PSs.nox (pss_one (ps_ret (pe_nget1 hr.units (pe_fld (pv 0) rfl) (pe_tup (pa_cons (pv 1) (pa_cons (pe_callTy call_tupleT (by rfl) T.b_tuple (by decide +kernel) (pa_cons (pv 2) pa_nil)) (pa_cons (pv 3) pa_nil)))) ⟨rfl, rfl, rfl, rfl⟩))), ?_⟩
    obtain ⟨es, h1, h2, h3⟩ := id W.parts
    refine ⟨_, rfl, _, _, _, _, _, rfl, ho, T.c_Wood, T.n_known, rfl, F.kn, _, rfl, h3, _, rfl, _, rfl, _, _, rfl, SqT.of hb, _, rfl, by show 3 ≤ sizeLine; decide, fun t ht => ?_⟩
    have s3 := Same.new (o := .tup [v, .ref b, .str wd]) ht
    have dm : Dt (upd H t (.tup [v, .ref b, .str wd])) (mk3 st el wd) (.ref t) := made_of upd_same (hd.same s3) (s3 _ _ hb)
    refine ⟨t, mk3 st el wd, rfl, h3.same s3, dm, depth_made gs el wd, ?_⟩
    have hn := nval_known (es := es) (st := st) (el := el) (wd := wd)
    rw [h1] at hn
    have hn : nval (knownN es) (mk3 st el wd) = S.find st el wd := hn
    rw [hn]
    exact q _ s3
def spSetName (P : Program) (w : World) (K : PySem.W.Frag) : Sp := fun vs H Q _ => ∃ F S x n, vs = [.ref F.o, .str x, .int n] ∧ WoodAt P w K H F S ∧ x ∈ namesL ∧ n ∈ S.nums ∧ S.names.length < 1000 ∧
  ∀ H', Kp F.l H H' → WoodAt P w K H' F (S.setName x n) → Q .non H'
theorem ok_set_name (T : Tx K mg) : OkM P w K mg base CX0 3 "Wood" "set_name" ["self", "name", "number"] (spSetName P w K) := by
  refine T.fWoodSetName.ok scWoodSetName (fun vs H Q E h => ?_) (fun cdv A outer s H vs Q E hr h => ?_)
  · obtain ⟨F, S, x, n, rfl, _⟩ := h
    rfl
  · obtain ⟨F, S, x, n, rfl, W, hx, hn, hl, q⟩ := h
    refine ⟨_, PSs.nox (pss_cons (ps_if (pt_not (pt_val (pcall T.dIsWord (ok_word T) hr pass0 (pa_cons (pv 1) pa_nil)))) (pss_one ps_never) pss_nil)
      (pss_cons (ps_expr (pmeth (pv 0) T.dWoodMakeAt (ok_make_at T) hr pass0 (pa_cons (pv 2) pa_nil)))
      (pss_one (ps_dput (hu_of hr) (pe_fld (pv 0) rfl) (pv 1) (pv 2) rfl)))), ?_⟩
    refine ⟨_, rfl, ⟨x, rfl, names_word x hx⟩, fun H1 s1 => ⟨_, rfl, iteF ?_⟩⟩
    have W1 := W.same s1
    obtain ⟨dx, ho⟩ := W1.obj
    obtain ⟨es, h1, h2, h3⟩ := id W1.parts
    refine ⟨_, rfl, _, _, _, rfl, ho, rfl, _, rfl, F, S, n, rfl, W1, hn, fun e he en a ha => ?_⟩
    refine ⟨_, rfl, _, rfl, _, _, _, _, _, rfl, ho, T.c_Wood, T.n_called, rfl, _, rfl, F.ca, _, rfl, DPut.k (k := Sum.inr x) W1.called (by unfold calledK; rw [List.length_map, sizeLine_eq]; omega), ?_⟩
    rw [calledK_put]
    have k2 : Kp [F.ca] H1 (upd H1 F.ca (.dK (calledK (setN S.names x n)))) := Kp.put W1.called (fun z => z) (by simp)
    refine q _ ((Kp.same s1).trans (k2.mono (by simp [WF.l]))) ⟨⟨dx, ?_⟩, ⟨es, h1, ?_, h3.kp k2 ?_⟩, upd_same, W1.nd⟩
    · exact (upd_ne (ne_of ho W1.called (by intro z; cases z))).trans ho
    · exact (upd_ne W1.nd).trans h2
    · simpa using ne_of h3.at_ W1.called (by intro z; cases z)
def spNamed (P : Program) (w : World) (K : PySem.W.Frag) : Sp := fun vs H Q _ => ∃ F S x n, vs = [.ref F.o, .str x] ∧ WoodAt P w K H F S ∧ x ∈ namesL ∧ getN S.names x = some n ∧ ∀ H', Same H H' → Q (.int n) H'
theorem ok_named (T : Tx K mg) : OkM P w K mg base CX0 3 "Wood" "named" ["self", "name"] (spNamed P w K) := by
  refine T.fWoodNamed.ok scWoodNamed (fun vs H Q E h => ?_) (fun cdv A outer s H vs Q E hr h => ?_)
  · obtain ⟨F, S, x, n, rfl, _⟩ := h
    rfl
  · obtain ⟨F, S, x, n, rfl, W, hx, hn, q⟩ := h
    refine ⟨_, PSs.nox (pss_cons (ps_if (PW.pt (pw_or (pt_not (pt_val (pcall T.dIsWord (ok_word T) hr pass0 (pa_cons (pv 1) pa_nil)))) (pw_or1 (pt_cmp (pc_dnotin (hu_of hr) (pv 1) (pe_fld (pv 0) rfl)))))) (pss_one ps_never) pss_nil)
      (pss_one (ps_ret (pe_dget (hu_of hr) (pe_fld (pv 0) rfl) (pv 1) (fun _ _ => rfl))))), ?_⟩
    refine ⟨_, rfl, ⟨x, rfl, names_word x hx⟩, fun H1 s1 => ⟨_, rfl, iteF ?_⟩⟩
    have W1 := W.same s1
    obtain ⟨dx, ho⟩ := W1.obj
    have hg : valV (calledK S.names) (Sum.inr x) = some (.int n) := by rw [calledK_get, hn]; rfl
    refine ⟨_, rfl, _, rfl, _, _, _, _, _, rfl, ho, T.c_Wood, T.n_called, rfl, F.ca, _, rfl, DGet.k (k := Sum.inr x) W1.called, _, rfl, ?_⟩
    rw [hg]
    exact iteF ⟨_, rfl, _, _, _, _, _, rfl, ho, T.c_Wood, T.n_called, rfl, _, rfl, F.ca, .int n, rfl, by rw [← hg]; exact DGet.k (k := Sum.inr x) W1.called, q _ s1⟩
/-- .. or the name is none -/
def spNamedX (P : Program) (w : World) (K : PySem.W.Frag) : Sp := fun vs H Q E => ∃ F S x, vs = [.ref F.o, .str x] ∧ WoodAt P w K H F S ∧ x ∈ namesL ∧ (∀ n, getN S.names x = some n → ∀ H', Same H H' → Q (.int n) H') ∧
  (getN S.names x = none → ∀ H' d, Same H H' → H' d = some (.xd [("name", .str x)]) → E (.ref (He.ga K "NoName")) (some d) H')
theorem ok_namedX (T : Tx K mg) : OkM P w K mg base (L2.CX P w) 3 "Wood" "named" ["self", "name"] (spNamedX P w K) := by
  refine T.fWoodNamed.ok scWoodNamed (fun vs H Q E h => ?_) (fun cdv A outer s H vs Q E hr h => ?_)
  · obtain ⟨F, S, x, rfl, _⟩ := h
    rfl
  · obtain ⟨F, S, x, rfl, W, hx, q1, q2⟩ := h
    obtain ⟨t1, t2, t3, t4, t5, t6⟩ := T.ex1
    refine ⟨_, (pss_cons (ps_if (PW.pt (pw_or (pt_not (pt_val (pcall T.dIsWord (ok_word T) hr pass0 (pa_cons (pv 1) pa_nil)))) (pw_or1 (pt_cmp (pc_dnotin (hu_of hr) (pv 1) (pe_fld (pv 0) rfl)))))) (pss_one (ps_raise rfl (takes_of rfl rfl rfl rfl) (pmk_oex t1 t4 t5 (ok_noname T) hr T.bNoNameInit .nil pass0 (by rfl) T.g_NoName (pa_cons (pv 1) pa_nil)))) pss_nil)
      (pss_one (ps_ret (pe_dget (hu_of hr) (pe_fld (pv 0) rfl) (pv 1) (fun _ _ => rfl))))), ?_⟩
    refine ⟨_, rfl, ⟨x, rfl, names_word x hx⟩, fun H1 s1 => ⟨_, rfl, iteF ?_⟩⟩
    have W1 := W.same s1
    obtain ⟨dx, ho⟩ := W1.obj
    refine ⟨_, rfl, _, rfl, _, _, _, _, _, rfl, ho, T.c_Wood, T.n_called, rfl, F.ca, _, rfl, DGet.k (k := Sum.inr x) W1.called, _, rfl, ?_⟩
    cases hn : getN S.names x with
    | some n =>
      have hg : valV (calledK S.names) (Sum.inr x) = some (.int n) := by rw [calledK_get, hn]; rfl
      rw [hg]
      exact iteF ⟨_, rfl, _, _, _, _, _, rfl, ho, T.c_Wood, T.n_called, rfl, _, rfl, F.ca, .int n, rfl, by rw [← hg]; exact DGet.k (k := Sum.inr x) W1.called, q1 n hn _ s1⟩
    | none =>
      have hg : valV (calledK S.names) (Sum.inr x) = none := by rw [calledK_get, hn]; rfl
      rw [hg]
      refine iteT ⟨_, rfl, by show 1 ≤ 1000; decide, fun a na => ⟨a, x, rfl, upd_same, fun dx nd ne => ⟨rfl, dx, [("name", .str x)], ?_, ?_, ?_, ?_⟩⟩⟩
      · exact upd_same
      · exact (upd_ne ne).trans upd_same
      · rw [upd_ne ne] at nd
        exact nd
      · have nd1 : H1 dx = none := by
          rw [upd_ne ne] at nd
          exact nd
        refine q2 hn _ dx (fun b o e => ?_) upd_same
        have e1 := s1 _ _ e
        have b1 : b ≠ a := ne_of_none e1 na
        have b2 : b ≠ dx := ne_of_none e1 nd1
        rw [upd_ne b2, del_ne b1, upd_ne b1, upd_ne b2, upd_ne b1]
        exact e1
def spDropName (P : Program) (w : World) (K : PySem.W.Frag) : Sp := fun vs H Q _ => ∃ F S x n, vs = [.ref F.o, .str x] ∧ WoodAt P w K H F S ∧ x ∈ namesL ∧ getN S.names x = some n ∧
  ∀ H', Kp F.l H H' → WoodAt P w K H' F (S.dropName x) → Q .non H'
theorem ok_drop_name (T : Tx K mg) : OkM P w K mg base CX0 4 "Wood" "drop_name" ["self", "name"] (spDropName P w K) := by
  refine T.fWoodDropName.ok scWoodDropName (fun vs H Q E h => ?_) (fun cdv A outer s H vs Q E hr h => ?_)
  · obtain ⟨F, S, x, n, rfl, _⟩ := h
    rfl
  · obtain ⟨F, S, x, n, rfl, W, hx, hn, q⟩ := h
    refine ⟨_, PSs.nox (pss_cons (ps_expr (pmeth (pv 0) T.dWoodNamed (ok_named T) hr pass0 (pa_cons (pv 1) pa_nil))) (pss_one (ps_expr (pe_dpop1 (pe_fld (pv 0) rfl) (pv 1) ⟨rfl, rfl, rfl, rfl⟩)))), ?_⟩
    obtain ⟨dx0, ho0⟩ := W.obj
    refine ⟨_, rfl, _, _, _, rfl, ho0, rfl, _, rfl, F, S, x, n, rfl, W, hx, hn, fun H1 s1 => ?_⟩
    have W1 := W.same s1
    obtain ⟨dx, ho⟩ := W1.obj
    obtain ⟨es, h1, h2, h3⟩ := id W1.parts
    have hg : valV (calledK S.names) (Sum.inr x) = some (.int n) := by rw [calledK_get, hn]; rfl
    refine ⟨_, rfl, _, _, _, _, _, rfl, ho, T.c_Wood, T.n_called, rfl, F.ca, rfl, .inl ⟨_, .inl W1.called⟩, _, rfl, _, Sum.inr x, _, W1.called, rfl, hg, ?_⟩
    rw [calledK_drop]
    have k2 : Kp [F.ca] H1 (upd H1 F.ca (.dK (calledK (dropN S.names x)))) := Kp.put W1.called (fun z => z) (by simp)
    refine q _ ((Kp.same s1).trans (k2.mono (by simp [WF.l]))) ⟨⟨dx, ?_⟩, ⟨es, h1, ?_, h3.kp k2 ?_⟩, upd_same, W1.nd⟩
    · exact (upd_ne (ne_of ho W1.called (by intro z; cases z))).trans ho
    · exact (upd_ne W1.nd).trans h2
    · simpa using ne_of h3.at_ W1.called (by intro z; cases z)
/-- the names in order -/
def srtN (ns : Nms) (ys : List Str) : Prop := ys.Perm (ns.map (·.1)) ∧ sortedS ys = true
def spNames (P : Program) (w : World) (K : PySem.W.Frag) : Sp := fun vs H Q _ => ∃ F S, vs = [.ref F.o] ∧ WoodAt P w K H F S ∧ S.names.length < 60 ∧ ∀ ys p, srtN S.names ys → H p = none → Q (.ref p) (upd H p (.lst (ys.map V.str)))
theorem ok_names (T : Tx K mg) : OkM P w K mg base CX0 1 "Wood" "names" ["self"] (spNames P w K) := by
  refine T.fWoodNames.ok scWoodNames (fun vs H Q E h => ?_) (fun cdv A outer s H vs Q E hr h => ?_)
  · obtain ⟨F, S, rfl, _⟩ := h
    rfl
  · obtain ⟨F, S, rfl, W, hl, q⟩ := h
    obtain ⟨dx, ho⟩ := W.obj
    refine ⟨_, PSs.nox (pss_one (ps_ret (pe_callB (call_sortedD rfl) (by rfl) T.b_sorted (by decide +kernel) (pa_cons (pe_fld (pv 0) rfl) pa_nil)))), ?_⟩
    exact ⟨_, rfl, _, _, _, _, _, rfl, ho, T.c_Wood, T.n_called, rfl, F.ca, _, S.names.map (·.1), rfl, .inl W.called, calledK_keys, by rw [List.length_map]; omega, fun ys p hp hs np => q ys p ⟨hp, hs⟩ np⟩
def woNew : Wo := ⟨[], [], 0⟩
def spWoodInit (P : Program) (w : World) (K : PySem.W.Frag) : Sp := fun vs H Q _ => ∃ a dx, vs = [.ref a] ∧ H a = some (.ins (He.ga K "Wood") dx []) ∧
  ∀ F H', F.o = a → (∀ b ∈ F.l, b = a ∨ H b = none) → F.l.Nodup → Kp [a] H H' → WoodAt P w K H' F woNew → Q .non H'
theorem ok_wood_init (T : Tx K mg) : OkM P w K mg base CX0 1 "Wood" "__init__" ["self"] (spWoodInit P w K) := by
  refine T.fWoodInit.ok scWoodInit (fun vs H Q E h => ?_) (fun cdv A outer s H vs Q E hr h => ?_)
  · obtain ⟨a, dx, rfl, _⟩ := h
    rfl
  · obtain ⟨a, dx, rfl, ha, q⟩ := h
    refine ⟨_, PSs.nox (pss_cons (ps_fld (pv 0) pe_dnewK rfl) (pss_cons (ps_fld (pv 0) pe_dnewN rfl) (pss_cons (ps_fld (pv 0) pe_int rfl) (pss_one (ps_fld (pv 0) pe_dnewK rfl))))), ?_⟩
    intro k hk
    have a_k : a ≠ k := ne_of_none ha hk
    let H1 : Hp := upd H k (.dK [])
    have ha1 : H1 a = some (.ins (He.ga K "Wood") dx []) := (upd_ne a_k).trans ha
    refine ⟨_, rfl, _, _, _, _, rfl, ha1, T.c_Wood, T.n_kept, by show 0 < 1000; decide, ?_⟩
    intro kn hkn
    let H2 : Hp := upd H1 a (.ins (He.ga K "Wood") dx [("kept", .ref k)])
    have ha2 : H2 a = some (.ins (He.ga K "Wood") dx [("kept", .ref k)]) := upd_same
    have hk2 : H2 k = some (.dK []) := (upd_ne a_k.symm).trans upd_same
    have a_kn : a ≠ kn := ne_of_none ha2 hkn
    have k_kn : k ≠ kn := ne_of_none hk2 hkn
    let H3 : Hp := upd H2 kn (NdO P w kn [])
    have ha3 : H3 a = some (.ins (He.ga K "Wood") dx [("kept", .ref k)]) := (upd_ne a_kn).trans ha2
    have hk3 : H3 k = some (.dK []) := (upd_ne k_kn).trans hk2
    have hn3 : H3 kn = some (NdO P w kn []) := upd_same
    refine ⟨_, rfl, _, _, _, _, rfl, ha3, T.c_Wood, T.n_known, by show 1 < 1000; decide, ?_⟩
    let H4 : Hp := upd H3 a (.ins (He.ga K "Wood") dx [("kept", .ref k), ("known", .ref kn)])
    have ha4 : H4 a = some (.ins (He.ga K "Wood") dx [("kept", .ref k), ("known", .ref kn)]) := upd_same
    refine ⟨_, rfl, _, _, _, _, rfl, ha4, T.c_Wood, T.n_coming, by show 2 < 1000; decide, ?_⟩
    intro ca hca
    let H5 : Hp := upd H4 a (.ins (He.ga K "Wood") dx [("kept", .ref k), ("known", .ref kn), ("coming", .int 0)])
    have ha5 : H5 a = some (.ins (He.ga K "Wood") dx [("kept", .ref k), ("known", .ref kn), ("coming", .int 0)]) := upd_same
    have hk5 : H5 k = some (.dK []) := (upd_ne a_k.symm).trans ((upd_ne a_k.symm).trans hk3)
    have hn5 : H5 kn = some (NdO P w kn []) := (upd_ne a_kn.symm).trans ((upd_ne a_kn.symm).trans hn3)
    have hca : H5 ca = none := hca
    have a_ca : a ≠ ca := ne_of_none ha5 hca
    have k_ca : k ≠ ca := ne_of_none hk5 hca
    have kn_ca : kn ≠ ca := ne_of_none hn5 hca
    let H6 : Hp := upd H5 ca (.dK [])
    have ha6 : H6 a = some (.ins (He.ga K "Wood") dx [("kept", .ref k), ("known", .ref kn), ("coming", .int 0)]) := (upd_ne a_ca).trans ha5
    refine ⟨_, rfl, _, _, _, _, rfl, ha6, T.c_Wood, T.n_called, by show 3 < 1000; decide, ?_⟩
    let H7 : Hp := upd H6 a (.ins (He.ga K "Wood") dx [("kept", .ref k), ("known", .ref kn), ("coming", .int 0), ("called", .ref ca)])
    have nca : H ca = none := by
      have e : H5 ca = H ca := by
        show upd (upd (upd (upd (upd H k _) a _) kn _) a _) a _ ca = _
        rw [upd_ne a_ca.symm, upd_ne a_ca.symm, upd_ne kn_ca.symm, upd_ne a_ca.symm, upd_ne k_ca.symm]
      rw [← e]
      exact hca
    have nkn : H kn = none := by
      have e : H2 kn = H kn := by
        show upd (upd H k _) a _ kn = _
        rw [upd_ne a_kn.symm, upd_ne k_kn.symm]
      rw [← e]
      exact hkn
    have kk : Kp [a] H H7 := by
      refine Kp.trans (Kp.new hk) (Kp.trans (H1 := H2) (Kp.put ha1 (fun z => z) (by simp)) (Kp.trans (H1 := H3) (Kp.new hkn) (Kp.trans (H1 := H4) (Kp.put ha3 (fun z => z) (by simp)) (Kp.trans (H1 := H5) (Kp.put ha4 (fun z => z) (by simp)) (Kp.trans (H1 := H6) (Kp.new hca) (Kp.put ha6 (fun z => z) (by simp)))))))
    refine q ⟨a, k, kn, ca⟩ H7 rfl ?_ ?_ kk ⟨⟨dx, upd_same⟩, ⟨[], rfl, ?_, ?_⟩, ?_, k_ca⟩
    · intro b hb
      simp [WF.l] at hb
      rcases hb with rfl | rfl | rfl | rfl
      · exact .inl rfl
      · exact .inr hk
      · exact .inr nkn
      · exact .inr nca
    · simp [WF.l, a_k, a_kn, a_ca, k_kn, k_ca, kn_ca]
    · exact (upd_ne a_k.symm).trans ((upd_ne k_ca).trans hk5)
    · exact ⟨(upd_ne a_kn.symm).trans ((upd_ne kn_ca).trans hn5), fun x hx => (List.not_mem_nil hx).elim, by rw [sizeLine_eq]; decide⟩
    · exact (upd_ne a_ca.symm).trans upd_same
end
end Mw

/-! Lists against [], ints in lists, heaps that grow. -/
namespace Mw
open PySem PySem.Spec PyProof.Rows L2
theorem Same.put0 {H H1 : Hp} {d : Addr} {o : HO} (s : Same H H1) (h : H d = none) : Same H (upd H1 d o) := fun b u e => by
  rw [upd_ne (ne_of_none e h)]
  exact s _ _ e
theorem Kp.put0 {S : List Addr} {H H1 : Hp} {d : Addr} {o : HO} (s : Kp S H H1) (h : H d = Option.none) : Kp S H (upd H1 d o) := fun b u e k => by
  rw [upd_ne (ne_of_none e h)]
  exact s _ _ e k
/-- a place of S, its object no tuple, is written -/
theorem Kp.putS {S : List Addr} {H H1 : Hp} {d : Addr} {o u : HO} (s : Kp S H H1) (h : d ∈ S) (hu : H d = some u) (nk : ¬ Kpt u) : Kp S H (upd H1 d o) := fun b v e k => by
  by_cases z : b = d
  · subst z
    rw [hu] at e
    cases e
    exact absurd k (fun k => k.elim (fun n => n h) nk)
  · rw [upd_ne z]
    exact s _ _ e k
theorem Same.no {H H1 : Hp} {d : Addr} (s : Same H H1) (h : H1 d = none) : H d = none := by
  cases e : H d with
  | none => rfl
  | some o =>
    rw [s _ _ e] at h
    cases h
section
variable {X : Cx}
theorem op_neNil (hu : X.A.units + 64 < cLine) : OpR X (compareOp .NotEq) (fun x y H Q => ∃ p q xs, x = .ref p ∧ y = .ref q ∧ H p = some (.lst xs) ∧ H q = some (.lst []) ∧ Q (.bl (!xs.isEmpty)) H) := by
  intro pins s σ H x y v u Q I rx ry h
  obtain ⟨p, q, xs, rfl, rfl, hp, hq, k⟩ := h
  cases rx
  cases ry
  obtain ⟨_, its, n, rv, e1⟩ := (show ObjOk X.prog X.w H s.heap p (.lst xs) from I.hok p _ hp)
  obtain ⟨_, its2, n2, rv2, e2⟩ := (show ObjOk X.prog X.w H s.heap q (.lst []) from I.hok q _ hq)
  cases rv2
  have hl := rv.length
  cases xs with
  | nil =>
    cases rv
    exact SeqAt.RcNeAt.lists (l := p) (b := q) (items := #[]) (items2 := #[]) ⟨_, e1, rfl, _, rfl⟩ ⟨_, e2, rfl, _, rfl⟩ (e := fun _ => true) rfl (by omega) (fun j j1 j2 => absurd j1 (Nat.not_lt_zero _)) _ _ _ _ ⟨.bl false, H, I, rfl, k⟩
  | cons y ys =>
    refine SeqAt.RcNeAt.lists_lengths (l := p) (b := q) (items := its.toArray) (items2 := #[]) ⟨_, e1, rfl, _, rfl⟩ ⟨_, e2, rfl, _, rfl⟩ ?_ (by omega) _ _ _ _ ⟨.bl true, H, I, rfl, k⟩
    rw [List.size_toArray, ← hl]
    rfl
theorem op_eqNil (hu : X.A.units + 64 < cLine) : OpR X (compareOp .Eq) (fun x y H Q => ∃ p q xs, x = .ref p ∧ y = .ref q ∧ H p = some (.lst xs) ∧ H q = some (.lst []) ∧ Q (.bl xs.isEmpty) H) := by
  intro pins s σ H x y v u Q I rx ry h
  obtain ⟨p, q, xs, rfl, rfl, hp, hq, k⟩ := h
  cases rx
  cases ry
  obtain ⟨_, its, n, rv, e1⟩ := (show ObjOk X.prog X.w H s.heap p (.lst xs) from I.hok p _ hp)
  obtain ⟨_, its2, n2, rv2, e2⟩ := (show ObjOk X.prog X.w H s.heap q (.lst []) from I.hok q _ hq)
  cases rv2
  have hl := rv.length
  cases xs with
  | nil =>
    cases rv
    exact SeqAt.RcAt.lists (l := p) (b := q) (items := #[]) (items2 := #[]) ⟨_, e1, rfl, _, rfl⟩ ⟨_, e2, rfl, _, rfl⟩ (e := fun _ => true) rfl (by omega) (fun j j1 j2 => absurd j1 (Nat.not_lt_zero _)) _ _ _ _ ⟨.bl true, H, I, rfl, k⟩
  | cons y ys =>
    refine SeqAt.RcAt.lists_lengths (l := p) (b := q) (items := its.toArray) (items2 := #[]) ⟨_, e1, rfl, _, rfl⟩ ⟨_, e2, rfl, _, rfl⟩ ?_ (by omega) _ _ _ _ ⟨.bl false, H, I, rfl, k⟩
    rw [List.size_toArray, ← hl]
    rfl
/-- x != [], x in slot i -/
def tNeNil (i : Nat) : TT := fun σ H Q => ∃ p xs, σ[i]? = some (some (.ref p)) ∧ H p = some (.lst xs) ∧ ∀ H2, Same H H2 → Q (!xs.isEmpty) H2
def tEqNil (i : Nat) : TT := fun σ H Q => ∃ p xs, σ[i]? = some (some (.ref p)) ∧ H p = some (.lst xs) ∧ ∀ H2, Same H H2 → Q xs.isEmpty H2
theorem tNeNil_mono {i : Nat} : ∀ σ H Q Q', (∀ b H1, Q b H1 → Q' b H1) → tNeNil i σ H Q → tNeNil i σ H Q' := fun σ H Q Q' h ⟨p, xs, e1, e2, q⟩ => ⟨p, xs, e1, e2, fun H2 s => h _ _ (q H2 s)⟩
variable {e : Expr} {i : Nat} {k : Nat} {pos pos2 : Pos}
theorem pt_neNil (hu : X.A.units + 64 < cLine) (he : PE X e (tVar i)) : PT X (.Compare e [.NotEq] [.List [] pos2] pos) (tNeNil i) := by
  refine ⟨fun pins s σ H Q I h => (pt_cmpR (op_neNil hu) he (pe_lst pa_nil) (nomark _)).run pins s σ H Q I ?_⟩
  obtain ⟨p, xs, e1, e2, q⟩ := h
  refine ⟨_, e1, by show 0 ≤ sizeLine; omega, fun l hl => ⟨p, l, xs, rfl, rfl, (Same.new hl) _ _ e2, upd_same, _, rfl, q _ (Same.new hl)⟩⟩
theorem pt_eqNil (hu : X.A.units + 64 < cLine) (he : PE X e (tVar i)) : PT X (.Compare e [.Eq] [.List [] pos2] pos) (tEqNil i) := by
  refine ⟨fun pins s σ H Q I h => (pt_cmpR (op_eqNil hu) he (pe_lst pa_nil) (nomark _)).run pins s σ H Q I ?_⟩
  obtain ⟨p, xs, e1, e2, q⟩ := h
  refine ⟨_, e1, by show 0 ≤ sizeLine; omega, fun l hl => ⟨p, l, xs, rfl, rfl, (Same.new hl) _ _ e2, upd_same, _, rfl, q _ (Same.new hl)⟩⟩
theorem inV_int {n : Int} {ns : List Int} : inV (.int n) (ns.map V.int) = decide (n ∈ ns) := by
  unfold inV
  rw [List.any_map]
  by_cases h : n ∈ ns
  · rw [decide_eq_true h]
    exact List.any_eq_true.mpr ⟨n, h, by show (n == n) = true; simp⟩
  · rw [decide_eq_false h]
    refine List.any_eq_false.mpr fun m hm z => h ?_
    have z : (m == n) = true := z
    rw [← eq_of_beq z]
    exact hm
theorem flat_ints {ns : List Int} : (ns.map V.int).all flatV = true := by
  rw [List.all_map]
  exact List.all_eq_true.mpr fun _ _ => rfl
def rInI (K : PySem.W.Frag) : R2 := fun x y H Q => ∃ (n : Int) (p : Addr) (ns : List Int), x = .int n ∧ y = .ref p ∧ SqL K H p (ns.map V.int) ∧ Q (.bl (decide (n ∈ ns))) H
def rNotInI (K : PySem.W.Frag) : R2 := fun x y H Q => ∃ (n : Int) (p : Addr) (ns : List Int), x = .int n ∧ y = .ref p ∧ SqL K H p (ns.map V.int) ∧ Q (.bl (!decide (n ∈ ns))) H
theorem op_inI : OpR X (compareOp .In) (rInI X.K) := by
  intro pins s σ H x y v u Q I rx ry h
  obtain ⟨n, p, ns, rfl, rfl, hp, q⟩ := h
  exact op_in_seq pins s σ H _ _ v u Q I rx ry ⟨p, _, rfl, .inl hp, rfl, flat_ints, by rw [inV_int]; exact q⟩
theorem op_notInI : OpR X (compareOp .NotIn) (rNotInI X.K) := by
  intro pins s σ H x y v u Q I rx ry h
  obtain ⟨n, p, ns, rfl, rfl, hp, q⟩ := h
  exact op_notIn_seq pins s σ H _ _ v u Q I rx ry ⟨p, _, rfl, .inl hp, rfl, flat_ints, by rw [inV_int]; exact q⟩
end
/-- a loop that ends by a measure -/
theorem while_m {c : TT} {tb : TS} {D : Ends} {σ : L2.St} {H : Hp} (Wv : Nat → L2.St → Hp → Prop) (h0 : ∃ m, Wv m σ H)
    (hs : ∀ m σ H, Wv m σ H → c σ H fun b H1 => if b = true then tb { D with nx := fun σ' H' => ∃ m', m' < m ∧ Wv m' σ' H', ct := fun σ' H' => ∃ m', m' < m ∧ Wv m' σ' H', bk := D.nx } σ H1 else D.nx σ H1)
    (mono : ∀ σ H Q Q', (∀ b H1, Q b H1 → Q' b H1) → c σ H Q → c σ H Q') : tWhile c tb D σ H := by
  refine ⟨Wv, h0, fun m σ H h => mono σ H _ _ (fun b H1 q => ?_) (hs m σ H h)⟩
  cases b with
  | true => exact ⟨_, fun σ' H' z => z, q⟩
  | false => exact q
/-! dicts of True by numbers -/
def trueK (ns : List Int) : List (Key × V) := ns.map fun n => (Sum.inl n, V.bl true)
theorem trueK_get {ns : List Int} {n : Int} : valV (trueK ns) (Sum.inl n) = if n ∈ ns then some (.bl true) else none := by
  unfold trueK
  induction ns with
  | nil => rfl
  | cons m r ih =>
    rw [List.map_cons]
    by_cases h : m = n
    · rw [valV_pos (by rw [h]), if_pos (by rw [h]; exact List.mem_cons_self)]
    · rw [valV_neg (by intro z; exact h (Sum.inl.inj z)), ih]
      by_cases hr : n ∈ r
      · rw [if_pos hr, if_pos (List.mem_cons_of_mem _ hr)]
      · rw [if_neg hr, if_neg (fun z => (List.mem_cons.mp z).elim (fun y => h y.symm) hr)]
theorem trueK_some {ns : List Int} {n : Int} : (valV (trueK ns) (Sum.inl n)).isSome = decide (n ∈ ns) := by
  rw [trueK_get]
  by_cases h : n ∈ ns
  · rw [if_pos h, decide_eq_true h]
    rfl
  · rw [if_neg h, decide_eq_false h]
    rfl
theorem trueK_put {ns : List Int} {n : Int} : putK (trueK ns) (Sum.inl n) (.bl true) = trueK (putL ns n) := by
  by_cases h : n ∈ ns
  · unfold putL putK
    have a : ((trueK ns).any fun kv => decide (kv.1 = Sum.inl n)) = true := by rw [valV_any, trueK_some, decide_eq_true h]
    rw [if_pos a, if_pos h]
    unfold trueK
    rw [List.map_map]
    refine List.map_congr_left fun m _ => ?_
    show (if (Sum.inl m : Key) = Sum.inl n then (Sum.inl m, V.bl true) else (Sum.inl m, V.bl true)) = _
    split <;> rfl
  · have z : valV (trueK ns) (Sum.inl n) = none := by rw [trueK_get, if_neg h]
    rw [putK_new _ z]
    unfold putL trueK
    rw [if_neg h, List.map_append]
    rfl
theorem trueK_keys {ns : List Int} : (trueK ns).map (·.1) = ns.map Sum.inl := by
  unfold trueK
  rw [List.map_map]
  rfl
theorem trueK_len {ns : List Int} : (trueK ns).length = ns.length := List.length_map _
theorem nodup_sub : ∀ {l m : List Int}, l.Nodup → (∀ x ∈ l, x ∈ m) → l.length ≤ m.length
  | [], _, _, _ => Nat.zero_le _
  | a :: l, m, nd, h => by
    obtain ⟨h1, h2⟩ := List.nodup_cons.mp nd
    have ha := h a List.mem_cons_self
    have := nodup_sub (m := m.erase a) h2 fun x hx => (List.mem_erase_of_ne (fun z => h1 (by rw [← z]; exact hx))).mpr (h x (List.mem_cons_of_mem _ hx))
    rw [List.length_erase_of_mem ha] at this
    have : 0 < m.length := List.length_pos_of_mem ha
    rw [List.length_cons]
    omega
theorem nodup_len {S : Wo} {found : List Int} (nd : found.Nodup) (h : ∀ x ∈ found, x ∈ S.nums) : found.length ≤ S.ents.length := by
  have := nodup_sub nd h
  unfold Wo.nums at this
  rw [List.length_map] at this
  exact this
def putAll (found l : List Int) : List Int := l.foldl putL found
theorem putAll_mem {l : List Int} : ∀ {found : List Int} {x : Int}, x ∈ putAll found l ↔ x ∈ found ∨ x ∈ l := by
  induction l with
  | nil =>
    intro found x
    exact ⟨.inl, fun h => h.elim id fun z => by cases z⟩
  | cons a l ih =>
    intro found x
    show x ∈ putAll (putL found a) l ↔ _
    rw [ih, putL_mem, List.mem_cons, or_assoc]
theorem putAll_nodup {l : List Int} : ∀ {found : List Int}, found.Nodup → (putAll found l).Nodup := by
  induction l with
  | nil => exact fun h => h
  | cons a l ih => exact fun h => ih (found := putL _ a) (putL_nodup h)
theorem putAll_take {l found : List Int} {j : Nat} {x : Int} (h : l[j]? = some x) : putAll found (l.take (j + 1)) = putL (putAll found (l.take j)) x := by
  unfold putAll
  rw [List.take_add_one, h, List.foldl_append]
  rfl
/-- popped from the end -/
theorem pop_last {xs : List Int} (h : xs ≠ []) : ∃ ys y, xs = ys ++ [y] := ⟨xs.dropLast, xs.getLast h, (List.dropLast_concat_getLast h).symm⟩
end Mw

/-! line_of, come_to. -/
namespace Mw
open PySem PySem.Spec PyProof.Rows L2
section
variable {P : Program} {w : World} {K : PySem.W.Frag} {mg : Str → Option Value} {base : Heap}
def smallE (S : Wo) : Prop := S.ents.length < 1000000
def spLineOf (P : Program) (w : World) (K : PySem.W.Frag) : Sp := fun vs H Q _ => ∃ F S ws n, vs = [.ref F.o, .int n] ∧ WoodAt P w K H F S ∧ Good ws S ∧ n ∈ S.nums ∧ smallE S ∧
  ∀ H' p, Same H H' → H p = none → H' p = some (.lst ((line S [n]).map V.int)) → Q (.ref p) H'
theorem ok_line_of (T : Tx K mg) : OkG P w K mg base CX0 4 "line_of" ["wood", "number"] (spLineOf P w K) := by
  refine T.fLineOf.ok scLineOf (fun vs H Q E h => ?_) (fun cdv A outer s H vs Q E hr h => ?_)
  · obtain ⟨F, S, ws, n, rfl, _⟩ := h
    rfl
  · obtain ⟨F, S, ws, n, rfl, W, G, hn, hl, q⟩ := h
    refine ⟨_, PSs.nox (pss_cons (ps_expr (pmeth (pv 0) T.dWoodEldersOf (ok_elders_of T) hr pass0 (pa_cons (pv 1) pa_nil)))
      (pss_cons (ps_set (i := 2) scLineOf.nd rfl (Or.inl rfl) pe_dnewK)
      (pss_cons (ps_set (i := 3) scLineOf.nd rfl (Or.inl rfl) (pe_lst (pa_cons (pv 1) pa_nil)))
      (pss_cons (ps_while PassesOwn.never (pt_neNil hr.units (pv 3)) (pss_cons (ps_set (i := 4) scLineOf.nd rfl (Or.inl rfl) (pe_bm0 PySem.F.plainAttrs_list PySem.F.slot_list_pop PySem.F.type_list_pop mt_pop (pv 3)))
        (pss_one (ps_if (pt_cmp (pc_dnotin (hu_of hr) (pv 4) (pv 2))) (pss_cons (ps_dput (hu_of hr) (pv 2) (pv 4) pe_bl rfl)
          (pss_one (ps_expr (pe_bm PySem.F.plainAttrs_list PySem.F.slot_list_extend PySem.F.type_list_extend mt_extT (pv 3) (pa_cons (pmeth (pv 0) T.dWoodEldersOf (ok_elders_of T) hr pass0 (pa_cons (pv 4) pa_nil)) pa_nil))))) pss_nil))))
      (pss_one (ps_ret (pe_callB (call_sortDI rfl) (by rfl) T.b_sorted (by decide +kernel) (pa_cons (pv 2) pa_nil)))))))), ?_⟩
    obtain ⟨dx, ho⟩ := W.obj
    refine ⟨_, rfl, _, _, _, rfl, ho, rfl, _, rfl, F, S, n, rfl, W, hn, fun e he en a ha => ?_⟩
    intro d hd
    refine ⟨_, rfl, by show 1 ≤ sizeLine; decide, fun l hl0 => ?_⟩
    have nl : H l = none := Same.no (Same.new (o := .dK []) hd) hl0
    have d_l : d ≠ l := ne_of_none upd_same hl0
    have mul := mu_le G []
    refine while_m (fun m σ Hc => ∃ found waiting x, σ = [some (.ref F.o), some (.int n), some (.ref d), some (.ref l), x] ∧ Same H Hc ∧ Hc d = some (.dK (trueK found)) ∧ Hc l = some (.lst (waiting.map V.int)) ∧ Dfs S [n] found waiting ∧ m = mu S.ents found + waiting.length ∧ m ≤ 4 * S.ents.length + 1)
      ⟨_, [], [n], none, rfl, Same.put0 (Same.put0 (Same.refl _) hd) nl, (upd_ne d_l).trans upd_same, upd_same, Dfs.start (by simpa using hn), rfl, by simp only [List.length_singleton]; omega⟩ ?_ tNeNil_mono
    rintro m σ Hc ⟨found, waiting, x, rfl, s, hd1, hl1, df, rfl, hm⟩
    refine ⟨l, _, rfl, hl1, fun H2 s2 => ?_⟩
    by_cases hw : waiting = []
    · subst hw
      refine iteF ?_
      refine ⟨_, rfl, d, _, found, rfl, .inl (s2 _ _ hd1), trueK_keys, fun ys p hp hs np => ?_⟩
      have e := line_sorted G hp hs (df.done G)
      rw [e]
      have np0 : H p = none := Same.no (s.trans s2) np
      exact q _ p (Same.put0 (s.trans s2) np0) np0 upd_same
    · obtain ⟨v, y, rfl⟩ := pop_last hw
      have hne : (!(List.map V.int (v ++ [y])).isEmpty) = true := by simp
      refine iteC hne ?_
      have hl2 := s2 _ _ hl1
      have hd2 := s2 _ _ hd1
      refine ⟨_, rfl, .inl ⟨rfl, _, SqL.of hl2⟩, l, _, .int y, rfl, rfl, hl2, by simp, ?_⟩
      have el : (List.map V.int (v ++ [y])).dropLast = v.map V.int := by simp
      rw [el]
      have s3 : Same H (upd H2 l (.lst (v.map V.int))) := Same.put0 (s.trans s2) nl
      have hd3 : (upd H2 l (.lst (v.map V.int))) d = some (.dK (trueK found)) := (upd_ne d_l).trans hd2
      have hl3 : (upd H2 l (.lst (v.map V.int))) l = some (.lst (v.map V.int)) := upd_same
      refine ⟨_, rfl, _, rfl, d, _, rfl, DGet.k (k := Sum.inl y) hd3, _, rfl, ?_⟩
      rw [trueK_some]
      rw [List.length_append, List.length_singleton] at hm ⊢
      by_cases hy : y ∈ found
      · rw [decide_eq_true hy]
        exact iteF ⟨_, by omega, found, v, _, rfl, s3, hd3, hl3, df.skip hy, rfl, by omega⟩
      · rw [decide_eq_false hy]
        have hyn : y ∈ S.nums := df.m y (.inr (List.mem_append_right _ (List.mem_singleton.mpr rfl)))
        obtain ⟨f, hf, rfl⟩ := Wo.mem_nums.mp hyn
        have fl := nodup_len df.nd fun x hx => df.m x (.inl hx)
        unfold smallE at hl
        refine iteT ⟨_, rfl, _, rfl, d, _, rfl, DPut.k (k := Sum.inl f.n) hd3 (by rw [trueK_len, sizeLine_eq]; omega), ?_⟩
        rw [trueK_put]
        have epl : putL found f.n = found ++ [f.n] := if_neg hy
        rw [epl]
        have s4 : Same H (upd (upd H2 l (.lst (v.map V.int))) d (.dK (trueK (found ++ [f.n])))) := Same.put0 s3 hd
        have W4 := W.same s4
        obtain ⟨dx4, ho4⟩ := W4.obj
        have hl4 : (upd (upd H2 l (.lst (v.map V.int))) d (.dK (trueK (found ++ [f.n])))) l = some (.lst (v.map V.int)) := (upd_ne d_l.symm).trans hl3
        have muv := mu_visit hf hy
        have hfew := G.few f hf
        refine ⟨_, rfl, .inl ⟨rfl, _, SqL.of hl4⟩, _, rfl, _, _, _, rfl, ho4, rfl, _, rfl, F, S, f.n, rfl, W4, hyn, fun e' he' en' a' ha' => ?_⟩
        obtain rfl := G.uniq he' hf en'
        refine ⟨l, a', _, _, rfl, rfl, hl4, ha', by rw [List.length_map, List.length_map, sizeLine_eq]; omega, ?_⟩
        rw [← List.map_append]
        refine ⟨_, ?_, found ++ [e'.n], v ++ e'.el, _, rfl, Same.put0 s4 nl, (upd_ne d_l).trans upd_same, upd_same, df.visit G hf hy, rfl, ?_⟩
        · rw [List.length_append]
          omega
        · rw [List.length_append]
          omega
end
end Mw

/-! come_to. -/
namespace Mw
open PySem PySem.Spec PyProof.Rows L2
section
variable {P : Program} {w : World} {K : PySem.W.Frag} {mg : Str → Option Value} {base : Heap}
def nameV (ns : Nms) (x : Str) : Int := (getN ns x).getD 0
def Wo.starts (S : Wo) (held : List Int) : List Int := S.names.map (·.2) ++ held.filter fun n => decide (n ∈ S.nums)
def spComeTo (P : Program) (w : World) (K : PySem.W.Frag) : Sp := fun vs H Q _ => ∃ F S ws held a, vs = [.ref F.o, .ref a] ∧ H a = some (.lst (held.map V.int)) ∧ WoodAt P w K H F S ∧ Good ws S ∧ smallE S ∧ S.names.length < 60 ∧ held.length < 100 ∧
  ∀ H' p, Same H H' → H p = none → H' p = some (.lst ((line S (S.starts held)).map V.int)) → Q (.ref p) H'
theorem nameV_mem {S : Wo} {ws : List NestedKey} (G : Good ws S) {ys : List Str} (h : srtN S.names ys) {n : Int} : n ∈ ys.map (nameV S.names) ↔ n ∈ S.names.map (·.2) := by
  constructor
  · intro hm
    obtain ⟨y, hy, rfl⟩ := List.mem_map.mp hm
    obtain ⟨p, hp, rfl⟩ := List.mem_map.mp (h.1.mem_iff.mp hy)
    have e : getN S.names p.1 = some p.2 := getN_of G.nnd hp
    refine List.mem_map.mpr ⟨p, hp, ?_⟩
    unfold nameV
    rw [e]
    rfl
  · intro hm
    obtain ⟨p, hp, rfl⟩ := List.mem_map.mp hm
    have e : getN S.names p.1 = some p.2 := getN_of G.nnd hp
    refine List.mem_map.mpr ⟨p.1, h.1.mem_iff.mpr (List.mem_map_of_mem hp), ?_⟩
    unfold nameV
    rw [e]
    rfl
theorem ok_come_to (T : Tx K mg) : OkG P w K mg base CX0 5 "come_to" ["wood", "held"] (spComeTo P w K) := by
  refine T.fComeTo.ok scComeTo (fun vs H Q E h => ?_) (fun cdv A outer s H vs Q E hr h => ?_)
  · obtain ⟨F, S, ws, held, a, rfl, _⟩ := h
    rfl
  · obtain ⟨F, S, ws, held, a, rfl, ha, W, G, hl, hnm, hhl, q⟩ := h
    refine ⟨_, PSs.nox (pss_cons (ps_set (i := 2) scComeTo.nd rfl (Or.inr rfl) (pmeth0 (pv 0) T.dWoodMakes (ok_makes T) (hr.mono (by decide)) pass0))
      (pss_cons (ps_setLc (i := 3) (own := [("one", 4)]) (g := gName 4) (tt := tAnd (tNot (tB (tCB (rIs .bl) (tCons (tVar 4) (tCons (tC (.ty "bool")) tNil))))) (tTest (tOp (rInI K) (tVar 4) (tVar 2)))) (te := tVar 4) rfl scComeTo.nd rfl rfl (sw_true rfl rfl rfl (by decide +kernel)) (pi_list (pv 1)) (blkOk_by (N := nComeTo) (sc := defScope sComeTo) (by decide +kernel)) (fun _ _ _ _ _ => pg_name (i := 4) scComeTo.nd rfl (Or.inl rfl))
          (fun _ _ _ _ _ => pts_one (PW.pt (pw_and (pt_not (pt_val (pe_is .bl (pv 4) T.b_isinstance T.b_bool))) (pw_and1 (pt_cmpR op_inI (pv 4) (pv 2) rfl)))))
          (fun _ _ _ _ _ => pv 4))
      (pss_cons (ps_set (i := 5) scComeTo.nd rfl (Or.inl rfl) pe_dnewK)
      (pss_cons (ps_for PassesOwn.never rfl (pi_list (pe_op op_cat
          (pe_lc (own := [("name", 7)]) (g := gName 7) (tt := tYes) rfl scComeTo.nd (pi_list (pmeth0 (pv 0) T.dWoodNames (ok_names T) (hr.mono (by decide)) pass0)) (blkOk_by (N := nComeTo) (sc := defScope sComeTo) (by decide +kernel)) (fun _ _ _ _ _ => pg_name (i := 7) scComeTo.nd rfl (Or.inl rfl)) (fun _ _ _ _ _ => pts_nil)
            (te := tMeth (He.ga K "Wood") "named" (spNamed P w K) [] E0 (tVar 0) (tCons (tVar 7) tNil)) (fun _ _ _ _ _ => pmeth (pv 0) T.dWoodNamed (ok_named T) (hr.mono (by decide)) pass0 (pa_cons (pv 7) pa_nil)))
          (pv 3))) (pg_name (i := 6) scComeTo.nd rfl (Or.inl rfl))
        (pss_one (ps_if (pt_cmp (pc_dnotin (hu_of hr) (pv 6) (pv 5)))
          (pss_one (ps_for PassesOwn.never rfl (pi_list (pcall T.dLineOf (ok_line_of T) hr pass0 (pa_cons (pv 0) (pa_cons (pv 6) pa_nil)))) (pg_name (i := 4) scComeTo.nd rfl (Or.inl rfl))
            (pss_one (ps_dput (hu_of hr) (pv 5) (pv 4) pe_bl rfl)))) pss_nil)))
      (pss_one (ps_ret (pe_callB (call_sortDI rfl) (by rfl) T.b_sorted (by decide +kernel) (pa_cons (pv 5) pa_nil)))))))), ?_⟩
    obtain ⟨dx, ho⟩ := W.obj
    refine ⟨_, rfl, _, _, _, rfl, ho, rfl, F, S, ws, rfl, W, G, fun t nt => ?_⟩
    have s1 : Same H (upd H t (.lst (S.nums.map V.int))) := Same.new nt
    have ht : (upd H t (.lst (S.nums.map V.int))) t = some (.lst (S.nums.map V.int)) := upd_same
    generalize upd H t (.lst (S.nums.map V.int)) = H1 at s1 ht
    refine ⟨_, rfl, _, rfl, ⟨_, SqL.of (s1 _ _ ha)⟩, fun D nD => lc_same (Wk.list (SqL.of (s1 _ _ ha)) (by simp)) nD (fun i acc => acc = ((held.take i).filter fun n => decide (n ∈ S.nums)).map V.int) rfl ?_ ?_⟩
    · intro i v acc Hc hi hla hD sc r hv
      rw [List.getElem?_map] at hv
      obtain ⟨n, hn, rfl⟩ := Option.map_eq_some_iff.mp hv
      refine ⟨rfl, _, rfl, _, _, rfl, .int _, _, rfl, iteT ⟨_, rfl, _, rfl, n, t, S.nums, rfl, rfl, SqL.of (sc _ _ ht), _, rfl, ?_⟩⟩
      by_cases hm : n ∈ S.nums
      · rw [decide_eq_true hm]
        refine iteT ⟨_, rfl, LcS.put nD sc hD hla (by rw [List.length_map] at hi; rw [sizeLine_eq]; omega) ?_⟩
        rw [r, List.take_add_one, hn, List.filter_append, List.map_append]
        simp [hm]
      · rw [decide_eq_false hm]
        refine iteF (LcS.skip sc hD hla ?_)
        rw [r, List.take_add_one, hn, List.filter_append, List.map_append]
        simp [hm]
    · intro acc H2 s2 r hD
      rw [List.length_map, List.take_length] at r
      subst r
      intro d nd
      have hot : (held.filter fun n => decide (n ∈ S.nums)).length ≤ held.length := List.length_filter_le _ _
      have s3 : Same H2 (upd H2 d (.dK [])) := Same.new nd
      have hd3 : (upd H2 d (.dK [])) d = some (.dK []) := upd_same
      generalize upd H2 d (.dK []) = H3 at s3 hd3
      have s03 := (s1.trans s2).trans s3
      have W3 := W.same s03
      obtain ⟨dx3, ho3⟩ := W3.obj
      refine ⟨_, rfl, _, _, _, rfl, ho3, rfl, F, S, rfl, W3, hnm, fun ys py hys npy => ?_⟩
      have s4 : Same H3 (upd H3 py (.lst (ys.map V.str))) := Same.new npy
      have hy4 : (upd H3 py (.lst (ys.map V.str))) py = some (.lst (ys.map V.str)) := upd_same
      generalize upd H3 py (.lst (ys.map V.str)) = H4 at s4 hy4
      have hyl : ys.length < 60 := by
        have := hys.1.length_eq
        rw [List.length_map] at this
        omega
      refine ⟨_, rfl, ⟨_, SqL.of hy4⟩, fun D2 nD2 => lc_same (Wk.list (SqL.of hy4) (by simp)) nD2 (fun i acc => acc = ((ys.take i).map (nameV S.names)).map V.int) rfl ?_ ?_⟩
      · intro i v acc Hc hi hla hDc sc r hv
        rw [List.getElem?_map] at hv
        obtain ⟨y, hy, rfl⟩ := Option.map_eq_some_iff.mp hv
        have Wc := (W3.same s4).same sc
        obtain ⟨dxc, hoc⟩ := Wc.obj
        have hym := hys.1.mem_iff.mp (List.mem_of_getElem? hy)
        obtain ⟨n, hn⟩ := getN_some hym
        obtain ⟨p, hp, ep⟩ := List.mem_map.mp hym
        refine ⟨rfl, _, rfl, _, _, _, rfl, hoc, rfl, _, rfl, F, S, y, n, rfl, Wc, by rw [← ep]; exact (G.nm p hp).1, hn, fun H5 s5 => ?_⟩
        refine LcS.put nD2 (sc.trans s5) (s5 _ _ hDc) hla (by rw [List.length_map] at hi; rw [sizeLine_eq]; omega) ?_
        rw [r, List.take_add_one, hy, List.map_append, List.map_append]
        simp [nameV, hn]
      · intro acc H5 s5 r hD5
        rw [List.length_map, List.take_length] at r
        subst r
        have s45 := s4.trans s5
        refine ⟨_, rfl, D2, D, _, _, rfl, rfl, hD5, s45 _ _ (s3 _ _ hD), by rw [List.length_map, List.length_map, List.length_map, sizeLine_eq]; omega, fun pl npl => ?_⟩
        rw [← List.map_append]
        have hd5 : H5 d = some (.dK []) := s45 _ _ hd3
        generalize hst : List.map (nameV S.names) ys ++ List.filter (fun n => decide (n ∈ S.nums)) held = st
        have stn : ∀ x ∈ st, x ∈ S.nums := by
          intro x hx
          rw [← hst] at hx
          rcases List.mem_append.mp hx with hx | hx
          · obtain ⟨p, hp, rfl⟩ := List.mem_map.mp ((nameV_mem G hys).mp hx)
            exact (G.nm p hp).2
          · exact of_decide_eq_true (List.mem_filter.mp hx).2
        have est : line S st = line S (S.starts held) := by
          refine line_congr fun x => ?_
          rw [← hst]
          unfold Wo.starts
          rw [List.mem_append, List.mem_append, nameV_mem G hys]
        have s56 : Same H5 (upd H5 pl (.lst (st.map V.int))) := Same.new npl
        have hpl : (upd H5 pl (.lst (st.map V.int))) pl = some (.lst (st.map V.int)) := upd_same
        generalize upd H5 pl (.lst (st.map V.int)) = H6 at s56 hpl
        have hd6 : H6 d = some (.dK []) := s56 _ _ hd5
        have pl_d : pl ≠ d := by
          intro z
          rw [z, hd6] at hpl
          cases hpl
        have s26 : Same H2 H6 := (s3.trans s45).trans s56
        have lift : ∀ {Hc : Hp}, Kp [d] H6 Hc → Same H2 Hc := fun k => (Kp.off_trans (S := []) (.same s26) nd k).to_same
        refine ⟨_, rfl, ⟨_, SqL.of hpl⟩, for_wk (S := [d]) (Wk.list (SqL.of hpl) (by simpa using pl_d)) (fun i σ Hc => ∃ found x4 x6, σ = [some (.ref F.o), some (.ref a), some (.ref t), some (.ref D), x4, some (.ref d), x6, none] ∧ Kp [d] H6 Hc ∧ Hc d = some (.dK (trueK found)) ∧ Dfs S (st.take i) found [])
          ⟨[], none, none, rfl, Kp.refl, hd6, Dfs.start (by simp)⟩ (fun i σ Hc h => by obtain ⟨_, _, _, _, h, _⟩ := h; exact h) ?_ ?_⟩
        · rintro i x σ Hc Hc' hi ⟨found, x4, x6, rfl, kc, hdc, df⟩ sc hx
          rw [List.getElem?_map] at hx
          obtain ⟨n, hn, rfl⟩ := Option.map_eq_some_iff.mp hx
          have kc' : Kp [d] H6 Hc' := kc.trans (.same sc)
          have hdc' := sc _ _ hdc
          have hnn := stn n (List.mem_of_getElem? hn)
          have etk : st.take (i + 1) = st.take i ++ [n] := by rw [List.take_add_one, hn]; rfl
          refine ⟨_, rfl, _, rfl, d, _, rfl, DGet.k (k := Sum.inl n) hdc', _, rfl, ?_⟩
          rw [trueK_some]
          by_cases hf : n ∈ found
          · rw [decide_eq_true hf]
            exact iteF ⟨found, _, _, rfl, kc', hdc', by rw [etk]; exact df.has G hf⟩
          · rw [decide_eq_false hf]
            refine iteT ⟨_, rfl, _, rfl, F, S, ws, n, rfl, (W.same (s1.trans s2)).same (lift kc'), G, hnn, hl, fun H7 p7 s7 np7 hp7 => ?_⟩
            have hd7 := s7 _ _ hdc'
            have p7_d : p7 ≠ d := by
              intro z
              rw [z, hd7] at hp7
              cases hp7
            refine ⟨_, rfl, ⟨_, SqL.of hp7⟩, for_wk (S := [d]) (Wk.list (SqL.of hp7) (by simpa using p7_d)) (fun j σ Hj => ∃ x4, σ = [some (.ref F.o), some (.ref a), some (.ref t), some (.ref D), x4, some (.ref d), some (.int n), none] ∧ Kp [d] H7 Hj ∧ Hj d = some (.dK (trueK (putAll found ((line S [n]).take j)))))
              ⟨_, rfl, Kp.refl, hd7⟩ (fun i σ Hc h => by obtain ⟨_, _, h, _⟩ := h; exact h) ?_ ?_⟩
            · rintro j y σ Hj Hj' hj ⟨x4', rfl, kj, hdj⟩ sj hy
              rw [List.getElem?_map] at hy
              obtain ⟨m, hm, rfl⟩ := Option.map_eq_some_iff.mp hy
              have hdj' := sj _ _ hdj
              have fl : (putAll found ((line S [n]).take j)).length ≤ S.ents.length := nodup_len (putAll_nodup df.nd) fun x hx => by
                rcases putAll_mem.mp hx with hx | hx
                · exact df.m x (.inl hx)
                · exact (line_mem.mp (List.mem_of_mem_take hx)).1
              unfold smallE at hl
              refine ⟨_, rfl, _, rfl, d, _, rfl, DPut.k (k := Sum.inl m) hdj' (by rw [trueK_len, sizeLine_eq]; omega), ?_⟩
              rw [trueK_put, ← putAll_take hm]
              exact ⟨_, rfl, Kp.putS (kj.trans (.same sj)) (by simp) hd7 (fun z => z), upd_same⟩
            · rintro σ Hj ⟨x4', rfl, kj, hdj⟩
              rw [List.length_map, List.take_length] at hdj
              refine ⟨_, _, _, rfl, kc'.trans ((Kp.same s7).trans kj), hdj, ?_⟩
              rw [etk]
              exact df.one G hnn (putAll_nodup df.nd) fun x => putAll_mem
        · rintro σ Hc ⟨found, x4, x6, rfl, kc, hdc, df⟩
          rw [List.length_map, List.take_length] at df
          refine ⟨_, rfl, d, _, found, rfl, .inl hdc, trueK_keys, fun zs p hp hs np => ?_⟩
          rw [line_sorted G hp hs (df.done G), est]
          have sH : Same H Hc := (s1.trans s2).trans (lift kc)
          have np0 : H p = none := Same.no sH np
          exact q _ p (Same.put0 sH np0) np0 upd_same
end
end Mw

/-! alike_makes. -/
namespace Mw
open PySem PySem.Spec PyProof.Rows L2
def alK (l : List (Int × Int)) : List (Key × V) := l.map fun p => (Sum.inl p.1, V.int p.2)
theorem alK_get {l : List (Int × Int)} {n : Int} : valV (alK l) (Sum.inl n) = (alGet l n).map V.int := by
  unfold alK
  induction l with
  | nil => rfl
  | cons p r ih =>
    rw [List.map_cons, alGet_cons]
    by_cases h : p.1 = n
    · rw [valV_pos (by rw [h]), if_pos h]
      rfl
    · rw [valV_neg (by intro z; exact h (Sum.inl.inj z)), if_neg h]
      exact ih
theorem alK_some {l : List (Int × Int)} {n : Int} : (valV (alK l) (Sum.inl n)).isSome = (alGet l n).isSome := by rw [alK_get, Option.isSome_map]
theorem alE_take {T : Wo} {l : List Ent} {i : Nat} {e : Ent} (h : l[i]? = some e) : alE T (l.take (i + 1)) = alE T (l.take i) ++ ((T.ents.find? fun f => decide (f.id = e.id)).map fun f => (e.n, f.n)).toList := by
  unfold alE
  rw [List.take_add_one, h, List.filterMap_append]
  congr 1
theorem before {S : Wo} {ws : List NestedKey} (G : Good ws S) {i : Nat} {e : Ent} (h : S.ents[i]? = some e) {f : Ent} (hf : f ∈ S.ents) (lt : f.n < e.n) : f ∈ S.ents.take i := by
  obtain ⟨hi, rfl⟩ := List.getElem?_eq_some_iff.mp h
  obtain ⟨j, hj, rfl⟩ := List.getElem_of_mem hf
  have jl : j < i := by
    rcases Nat.lt_or_ge j i with z | z
    · exact z
    · exfalso
      rcases Nat.lt_or_ge i j with y | y
      · have := List.pairwise_iff_getElem.mp G.rise i j hi hj y
        omega
      · have : i = j := by omega
        subst this
        omega
  exact List.mem_take_iff_getElem.mpr ⟨j, by omega, rfl⟩
theorem notyet {S T : Wo} {ws : List NestedKey} (G : Good ws S) {i : Nat} {e : Ent} (h : S.ents[i]? = some e) : alGet (alE T (S.ents.take i)) e.n = none := by
  refine alGet_none fun f hf z => ?_
  obtain ⟨hi, rfl⟩ := List.getElem?_eq_some_iff.mp h
  obtain ⟨j, hj, rfl⟩ := List.mem_take_iff_getElem.mp hf
  have := List.pairwise_iff_getElem.mp G.rise j i (by omega) hi (by omega)
  omega
section
variable {P : Program} {w : World} {K : PySem.W.Frag} {mg : Str → Option Value} {base : Heap}
def spAlike (P : Program) (w : World) (K : PySem.W.Frag) : Sp := fun vs H Q _ => ∃ F S F' U ws, vs = [.ref F.o, .ref F'.o] ∧ WoodAt P w K H F S ∧ WoodAt P w K H F' U ∧ Good ws S ∧ Good ws U ∧ smallE S ∧
  ∀ H' p, Same H H' → H p = none → H' p = some (.dK (alK (al S U))) → Q (.ref p) H'
theorem ok_alike (T : Tx K mg) : OkG P w K mg base CX0 4 "alike_makes" ["wood", "other"] (spAlike P w K) := by
  refine T.fAlikeMakes.ok scAlikeMakes (fun vs H Q E h => ?_) (fun cdv A outer s H vs Q E hr h => ?_)
  · obtain ⟨F, S, F', U, ws, rfl, _⟩ := h
    rfl
  · obtain ⟨F, S, F', U, ws, rfl, W, W', G, G', hl, q⟩ := h
    refine ⟨_, PSs.nox (pss_cons (ps_set (i := 2) scAlikeMakes.nd rfl (Or.inr rfl) pe_dnewK)
      (pss_cons (ps_for PassesOwn.never rfl (pi_list (pmeth0 (pv 0) T.dWoodMakes (ok_makes T) (hr.mono (by decide)) pass0)) (pg_name (i := 3) scAlikeMakes.nd rfl (Or.inl rfl))
        (pss_cons (ps_set (i := 4) scAlikeMakes.nd rfl (Or.inl rfl) (pmeth (pv 0) T.dWoodEldersOf (ok_elders_of T) hr pass0 (pa_cons (pv 3) pa_nil)))
        (pss_one (ps_if (pt_val (pe_callB (cr_all rfl) (by rfl) T.b_all (by decide +kernel) (pa_cons
            (pe_lc (own := [("elder", 5)]) (g := gName 5) (tt := tYes) rfl scAlikeMakes.nd (pi_tup (pv 4)) (blkOk_by (N := nAlikeMakes) (sc := defScope sAlikeMakes) (by decide +kernel)) (fun _ _ _ _ _ => pg_name (i := 5) scAlikeMakes.nd rfl (Or.inl rfl)) (fun _ _ _ _ _ => pts_nil)
              (fun _ _ _ _ _ => pe_cmp (pc_din (hu_of hr) (pv 5) (pv 2)) rfl)) pa_nil)))
          (pss_cons (ps_set (i := 6) scAlikeMakes.nd rfl (Or.inl rfl) (pe_callTy call_tuple_of (by rfl) T.b_tuple (by decide +kernel) (pa_cons
            (pe_lc (own := [("elder", 5)]) (g := gName 5) (tt := tYes) rfl scAlikeMakes.nd (pi_tup (pv 4)) (blkOk_by (N := nAlikeMakes) (sc := defScope sAlikeMakes) (by decide +kernel)) (fun _ _ _ _ _ => pg_name (i := 5) scAlikeMakes.nd rfl (Or.inl rfl)) (fun _ _ _ _ _ => pts_nil)
              (fun _ _ _ _ _ => pe_dget (hu_of hr) (pv 2) (pv 5) (fun _ _ => rfl))) pa_nil)))
          (pss_cons (ps_set (i := 7) scAlikeMakes.nd rfl (Or.inl rfl) (pmeth (pv 1) T.dWoodNumberOf (ok_number_of T) (hr.mono (by decide)) pass0 (pa_cons (pmeth (pv 0) T.dWoodStandOf (ok_stand_of T) hr pass0 (pa_cons (pv 3) pa_nil)) (pa_cons (pv 6) (pa_cons (pmeth (pv 0) T.dWoodWordsOf (ok_words_of T) hr pass0 (pa_cons (pv 3) pa_nil)) pa_nil)))))
          (pss_one (ps_if (pt_cmpR op_notN (pv 7) pe_non (nomark _)) (pss_one (ps_dput (hu_of hr) (pv 2) (pv 3) (pv 7) rfl)) pss_nil)))) pss_nil))))
      (pss_one (ps_ret (pv 2))))), ?_⟩
    intro d nd
    have s1 : Same H (upd H d (.dK [])) := Same.new nd
    have hd1 : (upd H d (.dK [])) d = some (.dK []) := upd_same
    generalize upd H d (.dK []) = H1 at s1 hd1
    obtain ⟨dx, ho⟩ := (W.same s1).obj
    refine ⟨_, rfl, _, _, _, rfl, ho, rfl, F, S, ws, rfl, W.same s1, G, fun p np => ?_⟩
    have s2 : Same H1 (upd H1 p (.lst (S.nums.map V.int))) := Same.new np
    have hp2 : (upd H1 p (.lst (S.nums.map V.int))) p = some (.lst (S.nums.map V.int)) := upd_same
    generalize upd H1 p (.lst (S.nums.map V.int)) = H2 at s2 hp2
    have hd2 : H2 d = some (.dK []) := s2 _ _ hd1
    have p_d : p ≠ d := by
      intro z
      rw [z, hd2] at hp2
      cases hp2
    have lift : ∀ {Hc : Hp}, Kp [d] H2 Hc → Same H Hc := fun k => (Kp.off_trans (S := []) (.same (s1.trans s2)) nd k).to_same
    refine ⟨_, rfl, ⟨_, SqL.of hp2⟩, for_wk (S := [d]) (Wk.list (SqL.of hp2) (by simpa using p_d)) (fun i σ Hc => ∃ x3 x4 x6 x7, σ = [some (.ref F.o), some (.ref F'.o), some (.ref d), x3, x4, none, x6, x7] ∧ Kp [d] H2 Hc ∧ Hc d = some (.dK (alK (alE U (S.ents.take i)))))
      ⟨none, none, none, none, rfl, Kp.refl, hd2⟩ (fun i σ Hc h => by obtain ⟨_, _, _, _, _, h, _⟩ := h; exact h) ?_ ?_⟩
    · rintro i x σ Hc Hc' hi ⟨x3, x4, x6, x7, rfl, kc, hdc⟩ sc hx
      unfold Wo.nums at hx
      rw [List.map_map, List.getElem?_map] at hx
      obtain ⟨e, hei, rfl⟩ := Option.map_eq_some_iff.mp hx
      have he := List.mem_of_getElem? hei
      have kc1 : Kp [d] H2 Hc' := kc.trans (.same sc)
      have hd3 := sc _ _ hdc
      have W3 := W.same (lift kc1)
      have hen : e.n ∈ S.nums := Wo.mem_nums.mpr ⟨e, he, rfl⟩
      obtain ⟨dx3, ho3⟩ := W3.obj
      refine ⟨_, rfl, _, _, _, rfl, ho3, rfl, _, rfl, F, S, e.n, rfl, W3, hen, fun e' he' en' a ha => ?_⟩
      obtain rfl := G.uniq he' he en'
      have few := G.few e' he
      have hlt : ∀ f ∈ S.ents.take i, f ∈ S.ents := fun f hf => List.mem_of_mem_take hf
      have hpt : (S.ents.take i).Pairwise fun e f => e.n < f.n := G.rise.sublist (List.take_sublist _ _)
      refine ⟨_, rfl, _, rfl, ⟨_, SqT.of ha⟩, fun D nD => lc_same (Wk.tup (SqT.of ha)) nD (fun j acc => acc = ((e'.el.take j).map fun k => (alGet (alE U (S.ents.take i)) k).isSome).map V.bl) rfl ?_ ?_⟩
      · intro j v acc Hj hj hla hDj sj r hv
        rw [List.getElem?_map] at hv
        obtain ⟨k, hk, rfl⟩ := Option.map_eq_some_iff.mp hv
        refine ⟨rfl, _, rfl, _, rfl, d, _, rfl, DGet.k (k := Sum.inl k) (sj _ _ hd3), ?_⟩
        rw [alK_some]
        refine LcS.put nD sj hDj hla (by rw [List.length_map] at hj; rw [sizeLine_eq]; omega) ?_
        rw [r, List.take_add_one, hk, List.map_append, List.map_append]
        rfl
      · intro acc H4 s4 r hD4
        rw [List.length_map, List.take_length] at r
        subst r
        refine ⟨_, _, rfl, SqL.of hD4, _, rfl, ?_⟩
        have hd4 := s4 _ _ hd3
        by_cases hall : ∀ k ∈ e'.el, (alGet (alE U (S.ents.take i)) k).isSome = true
        · refine iteC (by rw [List.all_map]; exact List.all_eq_true.mpr fun k hk => hall k hk) ?_
          have fe := al_turn G G' hlt hpt he hall
          have ha4 := s4 _ _ ha
          refine ⟨_, rfl, _, rfl, ⟨_, SqT.of ha4⟩, fun D2 nD2 => lc_same (Wk.tup (SqT.of ha4)) nD2 (fun j acc => acc = (alMap (alE U (S.ents.take i)) (e'.el.take j)).map V.int) rfl ?_ ?_⟩
          · intro j v acc Hj hj hla hDj sj r hv
            rw [List.getElem?_map] at hv
            obtain ⟨k, hk, rfl⟩ := Option.map_eq_some_iff.mp hv
            obtain ⟨m, hm⟩ := Option.isSome_iff_exists.mp (hall k (List.mem_of_getElem? hk))
            have hg : valV (alK (alE U (S.ents.take i))) (Sum.inl k) = some (.int m) := by rw [alK_get, hm]; rfl
            refine ⟨rfl, _, rfl, _, rfl, d, .int m, rfl, by rw [← hg]; exact DGet.k (k := Sum.inl k) (sj _ _ hd4), ?_⟩
            refine LcS.put nD2 sj hDj hla (by rw [List.length_map] at hj; rw [sizeLine_eq]; omega) ?_
            unfold alMap at r ⊢
            rw [r, List.take_add_one, hk, List.map_append, List.map_append]
            show _ ++ [V.int m] = _ ++ [V.int ((alGet _ k).getD 0)]
            rw [hm]
            rfl
          · intro acc H5 s5 r hD5
            rw [List.length_map, List.take_length] at r
            subst r
            refine ⟨D2, _, rfl, .inl ⟨SqL.of hD5, fun t nt => ?_⟩⟩
            have s6 : Same H5 (upd H5 t (.tup ((alMap (alE U (S.ents.take i)) e'.el).map V.int))) := Same.new nt
            have ht6 : (upd H5 t (.tup ((alMap (alE U (S.ents.take i)) e'.el).map V.int))) t = some (.tup ((alMap (alE U (S.ents.take i)) e'.el).map V.int)) := upd_same
            generalize upd H5 t (.tup ((alMap (alE U (S.ents.take i)) e'.el).map V.int)) = H6 at s6 ht6
            have s36 : Same Hc' H6 := (s4.trans s5).trans s6
            have W6 := W3.same s36
            have W6' := (W'.same (lift kc1)).same s36
            obtain ⟨dx6, ho6⟩ := W6.obj
            obtain ⟨dx6', ho6'⟩ := W6'.obj
            refine ⟨_, rfl, _, _, _, rfl, ho6', rfl, _, rfl, _, _, _, rfl, ho6, rfl, _, rfl, F, S, e'.n, rfl, W6, hen, fun e2 he2 en2 v hv => ?_⟩
            obtain rfl := G.uniq he2 he en2
            refine ⟨_, rfl, _, rfl, _, _, _, rfl, ho6, rfl, _, rfl, F, S, e2.n, rfl, W6, hen, fun e3 he3 en3 => ?_⟩
            obtain rfl := G.uniq he3 he2 en3
            refine ⟨F', U, e3.st, v, _, t, e3.wd, rfl, W6', hv, G.st e3 he3, ht6, fun H7 s7 => ?_⟩
            rw [fe]
            have hd7 := s7 _ _ (s36 _ _ hd3)
            have k7 : Kp [d] H2 H7 := kc1.trans (.same (s36.trans s7))
            refine ⟨_, rfl, rfl, _, rfl, ?_⟩
            cases hfi : U.ents.find? (fun f => decide (f.id = e3.id)) with
            | none =>
              refine iteF ⟨_, _, _, _, rfl, k7, ?_⟩
              rw [alE_take hei, hfi]
              simpa using hd7
            | some f =>
              refine iteT ⟨_, rfl, _, rfl, _, rfl, d, _, rfl, DPut.k (k := Sum.inl e3.n) hd7 ?_, ?_⟩
              · have h1 : (alE U (S.ents.take i)).length ≤ (S.ents.take i).length := alE_len
                have h2 := List.length_take_le i S.ents
                unfold smallE at hl
                unfold alK
                rw [List.length_map, sizeLine_eq]
                have h3 : (S.ents.take i).length ≤ S.ents.length := (List.take_sublist _ _).length_le
                omega
              · have hno : valV (alK (alE U (S.ents.take i))) (Sum.inl e3.n) = none := by rw [alK_get, notyet G hei]; rfl
                rw [putK_new _ hno]
                refine ⟨_, _, _, _, rfl, Kp.putS k7 (by simp) hd2 (fun z => z), ?_⟩
                rw [alE_take hei, hfi]
                unfold alK
                rw [List.map_append]
                exact upd_same
        · refine iteN ?_ ⟨_, _, _, _, rfl, kc1.trans (.same s4), ?_⟩
          · rw [List.all_map]
            refine Bool.eq_false_iff.mpr fun z => hall fun k hk => List.all_eq_true.mp z k hk
          · rw [alE_take hei, al_turn_no G G' hpt (fun f hf lt => before G hei hf lt) he hall]
            simpa using hd4
    · rintro σ Hc ⟨x3, x4, x6, x7, rfl, kc, hdc⟩
      have hn : S.nums.length = S.ents.length := List.length_map _
      rw [List.length_map, hn, List.take_length] at hdc
      exact ⟨_, rfl, q _ d (lift kc) nd hdc⟩
end
end Mw

/-! lacking; roads. -/
namespace Mw
open PySem PySem.Spec PyProof.Rows L2
section
variable {P : Program} {w : World} {K : PySem.W.Frag} {mg : Str → Option Value} {base : Heap}
def spLacking (P : Program) (w : World) (K : PySem.W.Frag) : Sp := fun vs H Q E => ∃ F S F' U ws x, vs = [.ref F.o, .ref F'.o, .str x] ∧ WoodAt P w K H F S ∧ WoodAt P w K H F' U ∧ Good ws S ∧ Good ws U ∧ x ∈ namesL ∧ smallE S ∧
  (∀ n, getN S.names x = some n → ∀ H' p, Same H H' → H p = none → H' p = some (.lst ((lack S U [n]).map V.int)) → Q (.ref p) H') ∧
  (getN S.names x = none → ∀ H' d, Same H H' → H' d = some (.xd [("name", .str x)]) → E (.ref (He.ga K "NoName")) (some d) H')
theorem ok_lacking (T : Tx K mg) : OkG P w K mg base (L2.CX P w) 5 "lacking" ["wood", "other", "name"] (spLacking P w K) := by
  refine T.fLacking.ok scLacking (fun vs H Q E h => ?_) (fun cdv A outer s H vs Q E hr h => ?_)
  · obtain ⟨F, S, F', U, ws, x, rfl, _⟩ := h
    rfl
  · obtain ⟨F, S, F', U, ws, x, rfl, W, W', G, G', hx, hl, q1, q2⟩ := h
    refine ⟨_, (pss_cons (ps_set (i := 3) scLacking.nd rfl (Or.inl rfl) (pmeth (pv 0) T.dWoodNamed (ok_namedX T) (hr.mono (by decide)) (passes_call (W := fun cls d _ H => E cls d H) (takes_of rfl rfl rfl rfl) (fun _ _ _ _ h => h)) (pa_cons (pv 2) pa_nil)))
      (pss_cons (ps_set (i := 4) scLacking.nd rfl (Or.inr rfl) (pcall T.dAlikeMakes (ok_alike T) hr pass0 (pa_cons (pv 0) (pa_cons (pv 1) pa_nil))))
      (pss_one (ps_ret (pe_lc (own := [("one", 5)]) (g := gName 5) (tt := tB (tDNotIn (tVar 5) (tVar 4))) (te := tVar 5) rfl scLacking.nd (pi_list (pcall T.dLineOf (ok_line_of T) hr pass0 (pa_cons (pv 0) (pa_cons (pv 3) pa_nil)))) (blkOk_by (N := nLacking) (sc := defScope sLacking) (by decide +kernel)) (fun _ _ _ _ _ => pg_name (i := 5) scLacking.nd rfl (Or.inl rfl))
        (fun _ _ _ _ _ => pts_one (pt_cmp (pc_dnotin (hu_of hr) (pv 5) (pv 4)) rfl)) (fun _ _ _ _ _ => pv 5)))))), ?_⟩
    obtain ⟨dx, ho⟩ := W.obj
    refine ⟨_, rfl, _, _, _, rfl, ho, rfl, _, rfl, F, S, x, rfl, W, hx, fun n hn H1 s1 => ?_, q2⟩
    refine ⟨_, rfl, _, rfl, F, S, F', U, ws, rfl, W.same s1, W'.same s1, G, G', hl, fun H2 d s2 nd hd => ?_⟩
    have hnn : n ∈ S.nums := (G.nm _ (getN_mem hn)).2
    refine ⟨_, rfl, _, rfl, F, S, ws, n, rfl, (W.same s1).same s2, G, hnn, hl, fun H3 p s3 np hp => ?_⟩
    have hd3 := s3 _ _ hd
    refine ⟨_, rfl, ⟨_, SqL.of hp⟩, fun D nD => lc_same (Wk.list (SqL.of hp) (by simp)) nD (fun i acc => acc = (((line S [n]).take i).filter fun m => (alGet (al S U) m).isNone).map V.int) rfl ?_ ?_⟩
    · intro i v acc Hc hi hla hD sc r hv
      rw [List.getElem?_map] at hv
      obtain ⟨m, hm, rfl⟩ := Option.map_eq_some_iff.mp hv
      have ll : (line S [n]).length ≤ S.ents.length := nodup_len (line_nodup G) fun y hy => (line_mem.mp hy).1
      unfold smallE at hl
      refine ⟨rfl, _, rfl, _, rfl, d, _, rfl, DGet.k (k := Sum.inl m) (sc _ _ hd3), _, rfl, ?_⟩
      rw [alK_some]
      cases hg : alGet (al S U) m with
      | none =>
        refine iteT ⟨_, rfl, LcS.put nD sc hD hla (by rw [List.length_map] at hi; rw [sizeLine_eq]; omega) ?_⟩
        rw [r, List.take_add_one, hm, List.filter_append, List.map_append]
        simp [hg]
      | some z =>
        refine iteF (LcS.skip sc hD hla ?_)
        rw [r, List.take_add_one, hm, List.filter_append, List.map_append]
        simp [hg]
    · intro acc H4 s4 r hD
      rw [List.length_map, List.take_length] at r
      subst r
      exact q1 n hn H4 D (((s1.trans s2).trans s3).trans s4) (Same.no ((s1.trans s2).trans s3) nD) hD
def roadFs (h t : Addr) (x : Str) (ov : Bool) : List (Str × V) := [("here", .ref h), ("there", .ref t), ("word", .str x), ("over", .bl ov)]
def spRoadInit (K : PySem.W.Frag) : Sp := fun vs H Q _ => ∃ a dx h t x, vs = [.ref a, .ref h, .ref t, .str x] ∧ H a = some (.ins (He.ga K "Road") dx []) ∧
  ∀ H', Kp [a] H H' → H' a = some (.ins (He.ga K "Road") dx (roadFs h t x false)) → Q .non H'
theorem ok_road_init (T : Tx K mg) : OkM P w K mg base CX0 1 "Road" "__init__" ["self", "wood", "other", "name"] (spRoadInit K) := by
  refine T.fRoadInit.ok scRoadInit (fun vs H Q E h => ?_) (fun cdv A outer s H vs Q E hr h => ?_)
  · obtain ⟨a, dx, h, t, x, rfl, _⟩ := h
    rfl
  · obtain ⟨a, dx, h, t, x, rfl, ha, q⟩ := h
    refine ⟨_, PSs.nox (pss_cons (ps_fld (pv 0) (pv 1) rfl) (pss_cons (ps_fld (pv 0) (pv 2) rfl) (pss_cons (ps_fld (pv 0) (pv 3) rfl) (pss_one (ps_fld (pv 0) pe_bl rfl))))), ?_⟩
    have k : ∀ {H0 : Hp} {fs : List (Str × V)} {o : HO}, H0 a = some (.ins (He.ga K "Road") dx fs) → Kp [a] H0 (upd H0 a o) := fun h => Kp.put h (fun z => z) (by simp)
    refine ⟨_, rfl, _, rfl, _, _, _, _, rfl, ha, T.c_Road, T.n_here, by show 0 < 1000; decide, ?_⟩
    refine ⟨_, rfl, _, rfl, _, _, _, _, rfl, upd_same, T.c_Road, T.n_there, by show 1 < 1000; decide, ?_⟩
    refine ⟨_, rfl, _, rfl, _, _, _, _, rfl, upd_same, T.c_Road, T.n_word, by show 2 < 1000; decide, ?_⟩
    refine ⟨_, rfl, _, _, _, _, rfl, upd_same, T.c_Road, T.n_over, by show 3 < 1000; decide, ?_⟩
    exact q _ ((((k ha).trans (k upd_same)).trans (k upd_same)).trans (k upd_same)) upd_same
def spHasEnded (K : PySem.W.Frag) : Sp := fun vs H Q _ => ∃ a dx h t x ov, vs = [.ref a] ∧ H a = some (.ins (He.ga K "Road") dx (roadFs h t x ov)) ∧ Q (.bl ov) H
theorem ok_has_ended (T : Tx K mg) : OkM P w K mg base CX0 1 "Road" "has_ended" ["self"] (spHasEnded K) := by
  refine T.fRoadHasEnded.ok scRoadHasEnded (fun vs H Q E h => ?_) (fun cdv A outer s H vs Q E hr h => ?_)
  · obtain ⟨a, dx, h, t, x, ov, rfl, _⟩ := h
    rfl
  · obtain ⟨a, dx, h, t, x, ov, rfl, ha, q⟩ := h
    refine ⟨_, PSs.nox (pss_one (ps_ret (pe_fld (pv 0) rfl))), ?_⟩
    exact ⟨_, rfl, _, _, _, _, _, rfl, ha, T.c_Road, T.n_over, rfl, q⟩
end
end Mw

/-! Road.step. -/
namespace Mw
open PySem PySem.Spec PyProof.Rows L2
section
variable {P : Program} {w : World} {K : PySem.W.Frag} {mg : Str → Option Value} {base : Heap}
def spStep (P : Program) (w : World) (K : PySem.W.Frag) : Sp := fun vs H Q E => ∃ a dx F S F' U ws x ov, vs = [.ref a] ∧ H a = some (.ins (He.ga K "Road") dx (roadFs F.o F'.o x ov)) ∧ WoodAt P w K H F S ∧ WoodAt P w K H F' U ∧ Good ws S ∧ Good ws U ∧ x ∈ namesL ∧ smallE S ∧ smallE U ∧ U.names.length < 60 ∧ a ∉ F'.l ∧
  (ov = true → ∀ H', Same H H' → E (.ref (He.ga K "Ended")) none H') ∧
  (ov = false → getN S.names x = none → ∀ H' d, Same H H' → H' d = some (.xd [("name", .str x)]) → E (.ref (He.ga K "NoName")) (some d) H') ∧
  (ov = false → ∀ n, getN S.names x = some n → lack S U [n] = [] → ∀ m, alGet (al S U) n = some m → ∀ H', Kp (a :: F'.l) H H' → H' a = some (.ins (He.ga K "Road") dx (roadFs F.o F'.o x true)) → WoodAt P w K H' F' (U.setName x m) → Q .non H') ∧
  (ov = false → ∀ n, getN S.names x = some n → ∀ e ∈ S.ents, ∀ r, lack S U [n] = e.n :: r → ∀ H', Kp F'.l H H' → WoodAt P w K H' F' (U.put e.st (alMap (al S U) e.el) e.wd e.id e.ei).1 → Q (.int (U.put e.st (alMap (al S U) e.el) e.wd e.id e.ei).2) H')
theorem ok_step (T : Tx K mg) : OkM P w K mg base (L2.CX P w) 10 "Road" "step" ["self"] (spStep P w K) := by
  refine T.fRoadStep.ok scRoadStep (fun vs H Q E h => ?_) (fun cdv A outer s H vs Q E hr h => ?_)
  · obtain ⟨a, dx, F, S, F', U, ws, x, ov, rfl, _⟩ := h
    rfl
  · obtain ⟨a, dx, F, S, F', U, ws, x, ov, rfl, ha, W, W', G, G', hx, hl, hl', hnm, na, q1, q2, q3, q4⟩ := h
    obtain ⟨e1, e2, e3, e4⟩ := T.e_Ended
    refine ⟨_, (pss_cons (ps_if (pt_val (pe_fld (pv 0) rfl)) (pss_one (ps_raise rfl (takes_of rfl rfl rfl rfl) (pmk_own PySem.F.excBase_ValueError e1 T.g_Ended e2 (raises_own e3 e4) rfl))) pss_nil)
      (pss_cons (ps_set (i := 1) scRoadStep.nd rfl (Or.inl rfl) (pcall T.dLacking (ok_lacking T) (hr.mono (by decide)) (passes_call (W := fun cls d _ H => E cls d H) (takes_of rfl rfl rfl rfl) (fun _ _ _ _ h => h)) (pa_cons (pe_fld (pv 0) rfl) (pa_cons (pe_fld (pv 0) rfl) (pa_cons (pe_fld (pv 0) rfl) pa_nil)))))
      (pss_cons (ps_set (i := 2) scRoadStep.nd rfl (Or.inr rfl) (pcall T.dAlikeMakes (ok_alike T) (hr.mono (by decide)) pass0 (pa_cons (pe_fld (pv 0) rfl) (pa_cons (pe_fld (pv 0) rfl) pa_nil))))
      (pss_cons (ps_if (pt_eqNil hr.units (pv 1))
        (pss_cons (ps_expr (pmeth (pe_fld (pv 0) rfl) T.dWoodSetName (ok_set_name T) (hr.mono (by decide)) pass0 (pa_cons (pe_fld (pv 0) rfl) (pa_cons (pe_dget (hu_of hr) (pv 2) (pmeth (pe_fld (pv 0) rfl) T.dWoodNamed (ok_named T) (hr.mono (by decide)) pass0 (pa_cons (pe_fld (pv 0) rfl) pa_nil)) (fun _ _ => rfl)) pa_nil))))
        (pss_cons (ps_fld (pv 0) pe_bl rfl) (pss_one (ps_ret pe_non)))) pss_nil)
      (pss_cons (ps_set (i := 3) scRoadStep.nd rfl (Or.inl rfl) (pe_ix ix_list (pv 1) pe_int (fun _ _ => rfl)))
      (pss_cons (ps_set (i := 4) scRoadStep.nd rfl (Or.inl rfl) (pe_callTy call_tuple_of (by rfl) T.b_tuple (by decide +kernel) (pa_cons
            (pe_lc (own := [("elder", 5)]) (g := gName 5) (tt := tYes) rfl scRoadStep.nd (pi_tup (pmeth (pe_fld (pv 0) rfl) T.dWoodEldersOf (ok_elders_of T) (hr.mono (by decide)) pass0 (pa_cons (pv 3) pa_nil))) (blkOk_by (N := nRoadStep) (sc := defScope sRoadStep) (by decide +kernel)) (fun _ _ _ _ _ => pg_name (i := 5) scRoadStep.nd rfl (Or.inl rfl)) (fun _ _ _ _ _ => pts_nil)
              (fun _ _ _ _ _ => pe_dget (hu_of hr) (pv 2) (pv 5) (fun _ _ => rfl))) pa_nil)))
      (pss_one (ps_ret (pmeth (pe_fld (pv 0) rfl) T.dWoodPut (ok_put T) hr pass0 (pa_cons (pmeth (pe_fld (pv 0) rfl) T.dWoodStandOf (ok_stand_of T) (hr.mono (by decide)) pass0 (pa_cons (pv 3) pa_nil)) (pa_cons (pv 4) (pa_cons (pmeth (pe_fld (pv 0) rfl) T.dWoodWordsOf (ok_words_of T) (hr.mono (by decide)) pass0 (pa_cons (pv 3) pa_nil)) pa_nil)))))))))))), ?_⟩
    refine ⟨_, rfl, _, _, _, _, _, rfl, ha, T.c_Road, T.n_over, rfl, _, rfl, ?_⟩
    cases ov with
    | true => exact iteT (q1 rfl _ (Same.refl _))
    | false =>
      refine iteF ⟨_, rfl, _, _, _, _, _, rfl, ha, T.c_Road, T.n_here, rfl, _, rfl, _, _, _, _, _, rfl, ha, T.c_Road, T.n_there, rfl, _, rfl, _, _, _, _, _, rfl, ha, T.c_Road, T.n_word, rfl, ?_⟩
      refine ⟨F, S, F', U, ws, x, rfl, W, W', G, G', hx, hl, fun n hn H1 p s1 np hp => ?_, q2 rfl⟩
      have ha1 := s1 _ _ ha
      refine ⟨_, rfl, _, _, _, _, _, rfl, ha1, T.c_Road, T.n_here, rfl, _, rfl, _, _, _, _, _, rfl, ha1, T.c_Road, T.n_there, rfl, ?_⟩
      refine ⟨F, S, F', U, ws, rfl, W.same s1, W'.same s1, G, G', hl, fun H2 d s2 nd hd => ?_⟩
      refine ⟨p, _, rfl, s2 _ _ hp, fun H3 s3 => ?_⟩
      have s03 := (s1.trans s2).trans s3
      have hp3 := s3 _ _ (s2 _ _ hp)
      have ha3 := s03 _ _ ha
      have hd3 := s3 _ _ hd
      have W3 := W.same s03
      have W3' := W'.same s03
      obtain ⟨dxw, how⟩ := W3.obj
      obtain ⟨dxv, hov⟩ := W3'.obj
      have hnn : n ∈ S.nums := (G.nm _ (getN_mem hn)).2
      cases hk : lack S U [n] with
      | nil =>
        have hnl : n ∈ line S [n] := line_mem.mpr ⟨hnn, .start (List.mem_singleton.mpr rfl)⟩
        obtain ⟨m, hm⟩ : ∃ m, alGet (al S U) n = some m := by
          cases z : alGet (al S U) n with
          | some m => exact ⟨m, rfl⟩
          | none =>
            have : n ∈ lack S U [n] := List.mem_filter.mpr ⟨hnl, by rw [z]; rfl⟩
            rw [hk] at this
            cases this
        have hg : valV (alK (al S U)) (Sum.inl n) = some (.int m) := by rw [alK_get, hm]; rfl
        obtain ⟨e, _, f, hf, _, efm, _⟩ := al_some G hm
        refine iteT ⟨_, rfl, _, _, _, _, _, rfl, ha3, T.c_Road, T.n_there, rfl, _, _, _, rfl, hov, rfl, _, rfl, _, _, _, _, _, rfl, ha3, T.c_Road, T.n_word, rfl, ?_⟩
        refine ⟨_, rfl, _, rfl, _, _, _, _, _, rfl, ha3, T.c_Road, T.n_here, rfl, _, _, _, rfl, how, rfl, _, rfl, _, _, _, _, _, rfl, ha3, T.c_Road, T.n_word, rfl, F, S, x, n, rfl, W3, hx, hn, fun H4 s4 => ?_⟩
        refine ⟨d, .int m, rfl, by rw [← hg]; exact DGet.k (k := Sum.inl n) (s4 _ _ hd3), ?_⟩
        refine ⟨F', U, x, m, rfl, W3'.same s4, hx, Wo.mem_nums.mpr ⟨f, hf, efm⟩, by omega, fun H5 k5 W5 => ?_⟩
        have ha5 : H5 a = _ := k5.at (s4 _ _ ha3) na
        refine ⟨_, rfl, _, _, _, _, rfl, ha5, T.c_Road, T.n_over, by show 4 < 1000; decide, ?_⟩
        have k6 : Kp [a] H5 (upd H5 a (.ins (He.ga K "Road") dx (roadFs F.o F'.o x true))) := Kp.put ha5 (fun z => z) (by simp)
        refine q3 rfl n hn hk m hm _ ?_ upd_same (W5.kp k6 fun b hb z => na (by rw [← List.mem_singleton.mp z]; exact hb))
        exact ((Kp.same (s03.trans s4)).trans (k5.mono fun b hb => List.mem_cons_of_mem _ hb)).trans (k6.mono fun b hb => by rw [List.mem_singleton.mp hb]; exact List.mem_cons_self)
      | cons n0 r =>
        obtain ⟨e, he, rfl, hel, _⟩ := lack_head G hk
        have hen : e.n ∈ S.nums := Wo.mem_nums.mpr ⟨e, he, rfl⟩
        have hp4 := hp3
        rw [hk] at hp4
        refine iteF ⟨_, rfl, _, _, _, _, rfl, rfl, SqL.of hp4, atI_nat (j := 0) rfl, ?_⟩
        refine ⟨_, rfl, _, _, _, _, _, rfl, ha3, T.c_Road, T.n_here, rfl, _, _, _, rfl, how, rfl, _, rfl, F, S, e.n, rfl, W3, hen, fun e' he' en' b hb => ?_⟩
        obtain rfl := G.uniq he' he en'
        have few := G.few e' he
        refine ⟨_, rfl, ⟨_, SqT.of hb⟩, fun D nD => lc_same (Wk.tup (SqT.of hb)) nD (fun j acc => acc = (alMap (al S U) (e'.el.take j)).map V.int) rfl ?_ ?_⟩
        · intro j v acc Hj hj hla hDj sj r hv
          rw [List.getElem?_map] at hv
          obtain ⟨k, hk, rfl⟩ := Option.map_eq_some_iff.mp hv
          obtain ⟨m, hm⟩ := Option.isSome_iff_exists.mp (hel k (List.mem_of_getElem? hk))
          have hg : valV (alK (al S U)) (Sum.inl k) = some (.int m) := by rw [alK_get, hm]; rfl
          refine ⟨rfl, _, rfl, _, rfl, d, .int m, rfl, by rw [← hg]; exact DGet.k (k := Sum.inl k) (sj _ _ hd3), ?_⟩
          refine LcS.put nD sj hDj hla (by rw [List.length_map] at hj; rw [sizeLine_eq]; omega) ?_
          unfold alMap at r ⊢
          rw [r, List.take_add_one, hk, List.map_append, List.map_append]
          show _ ++ [V.int m] = _ ++ [V.int ((alGet _ k).getD 0)]
          rw [hm]
          rfl
        · intro acc H5 s5 r5 hD5
          rw [List.length_map, List.take_length] at r5
          subst r5
          refine ⟨D, _, rfl, .inl ⟨SqL.of hD5, fun t nt => ?_⟩⟩
          have s6 : Same H5 (upd H5 t (.tup ((alMap (al S U) e'.el).map V.int))) := Same.new nt
          have ht6 : (upd H5 t (.tup ((alMap (al S U) e'.el).map V.int))) t = some (.tup ((alMap (al S U) e'.el).map V.int)) := upd_same
          generalize upd H5 t (.tup ((alMap (al S U) e'.el).map V.int)) = H6 at s6 ht6
          have s36 : Same H3 H6 := s5.trans s6
          have W6 := W3.same s36
          have W6' := W3'.same s36
          have ha6 := s36 _ _ ha3
          have how6 := s36 _ _ how
          have hov6 := s36 _ _ hov
          have hes := elds_map_al (T := U) G (fun e he => he) G.rise (G.el e' he) hel
          refine ⟨_, rfl, _, _, _, _, _, rfl, ha6, T.c_Road, T.n_there, rfl, _, _, _, rfl, hov6, rfl, ?_⟩
          refine ⟨_, rfl, _, _, _, _, _, rfl, ha6, T.c_Road, T.n_here, rfl, _, _, _, rfl, how6, rfl, _, rfl, F, S, e'.n, rfl, W6, hen, fun e2 he2 en2 v hv => ?_⟩
          obtain rfl := G.uniq he2 he en2
          refine ⟨_, rfl, _, rfl, _, _, _, _, _, rfl, ha6, T.c_Road, T.n_here, rfl, _, _, _, rfl, how6, rfl, _, rfl, F, S, e2.n, rfl, W6, hen, fun e3 he3 en3 => ?_⟩
          obtain rfl := G.uniq he3 he2 en3
          refine ⟨F', U, e3.st, v, alMap (al S U) e3.el, t, e3.wd, e3.id, e3.ei, rfl, W6', hv, G.st e3 he3, ht6, Elds.mem hes, hl', fun f hf => (G'.rng f hf).2, fun H7 k7 W7 => ?_⟩
          exact q4 rfl n hn e3 he r hk H7 ((Kp.same (s03.trans s36)).trans k7) W7
end
end Mw

/-! Wood.let_go. -/
namespace Mw
open PySem PySem.Spec PyProof.Rows L2
theorem Good.made_inj {ws : List NestedKey} {S : Wo} (G : Good ws S) {e f : Ent} (he : e ∈ S.ents) (hf : f ∈ S.ents) (h : madeK e = madeK f) : e = f := by
  obtain ⟨x1, x2, x3⟩ := mk3_inj h
  have e2 : e.ei = f.ei := by rw [G.elds_map (G.el e he), G.elds_map (G.el f hf), x2]
  exact G.ids e he f hf (G.world_id G he hf (by unfold worldK; rw [x1, e2, x3]))
theorem keptK_drop {es : List (Ent × Addr)} {n : Int} : dropK (keptK es) (Sum.inl n) = keptK (es.filter fun p => decide (p.1.n ≠ n)) := by
  unfold dropK keptK
  rw [List.filter_map]
  congr 1
  refine List.filter_congr fun p _ => ?_
  show decide ((Sum.inl p.1.n : Key) ≠ Sum.inl n) = _
  exact decide_eq_decide.mpr ⟨fun z y => z (by rw [y]), fun z y => z (Sum.inl.inj y)⟩
theorem knownN_drop {es : List (Ent × Addr)} {e : Ent} (h : ∀ p ∈ es, (madeK p.1 = madeK e ↔ p.1.n = e.n)) : ndrop (knownN es) (madeK e) = knownN (es.filter fun p => decide (p.1.n ≠ e.n)) := by
  unfold ndrop knownN
  rw [List.filter_map]
  congr 1
  refine List.filter_congr fun p hp => ?_
  show (!decide (madeK p.1 = madeK e)) = _
  have k := h p hp
  by_cases z : p.1.n = e.n
  · rw [decide_eq_true (k.mpr z), decide_eq_false (fun y => y z)]
    rfl
  · rw [decide_eq_false (fun y => z (k.mp y)), decide_eq_true z]
    rfl
section
variable {P : Program} {w : World} {K : PySem.W.Frag} {mg : Str → Option Value} {base : Heap}
noncomputable def Wo.gone (S : Wo) (held : List Int) : List Int := S.nums.filter fun n => decide (n ∉ line S (S.starts held))
noncomputable def Wo.stay (S : Wo) (held : List Int) : Wo := S.keep fun n => decide (n ∈ line S (S.starts held))
def spLetGo (P : Program) (w : World) (K : PySem.W.Frag) : Sp := fun vs H Q _ => ∃ F S ws held a, vs = [.ref F.o, .ref a] ∧ H a = some (.lst (held.map V.int)) ∧ WoodAt P w K H F S ∧ Good ws S ∧ smallE S ∧ S.names.length < 60 ∧ held.length < 100 ∧
  ∀ H' p, Kp F.l H H' → H p = none → H' p = some (.lst ((S.gone held).map V.int)) → WoodAt P w K H' F (S.stay held) → Q (.ref p) H'
theorem ok_let_go (T : Tx K mg) : OkM P w K mg base CX0 4 "Wood" "let_go" ["self", "held"] (spLetGo P w K) := by
  refine T.fWoodLetGo.ok scWoodLetGo (fun vs H Q E h => ?_) (fun cdv A outer s H vs Q E hr h => ?_)
  · obtain ⟨F, S, ws, held, a, rfl, _⟩ := h
    rfl
  · obtain ⟨F, S, ws, held, a, rfl, ha, W, G, hl, hnm, hhl, q⟩ := h
    refine ⟨_, PSs.nox (pss_cons (ps_set (i := 2) scWoodLetGo.nd rfl (Or.inr rfl) pe_dnewK)
      (pss_cons (ps_set (i := 3) scWoodLetGo.nd rfl (Or.inl rfl) (pe_op op_cat (pe_listVals rfl (pe_fld (pv 0) rfl) (by rfl) T.b_list)
        (pe_lc (own := [("number", 4)]) (g := gName 4) (tt := tB (tMeth (He.ga K "Wood") "is_there" (spIsThere P w K) [] E0 (tVar 0) (tCons (tVar 4) tNil))) (te := tVar 4) rfl scWoodLetGo.nd (pi_list (pv 1)) (blkOk_by (N := nWoodLetGo) (sc := defScope sWoodLetGo) (by decide +kernel)) (fun _ _ _ _ _ => pg_name (i := 4) scWoodLetGo.nd rfl (Or.inl rfl))
          (fun _ _ _ _ _ => pts_one (pt_val (pmeth (pv 0) T.dWoodIsThere (ok_is_there T) (hr.mono (by decide)) pass0 (pa_cons (pv 4) pa_nil)))) (fun _ _ _ _ _ => pv 4))))
      (pss_cons (ps_while PassesOwn.never (pt_neNil hr.units (pv 3)) (pss_cons (ps_set (i := 4) scWoodLetGo.nd rfl (Or.inl rfl) (pe_bm0 PySem.F.plainAttrs_list PySem.F.slot_list_pop PySem.F.type_list_pop mt_pop (pv 3)))
        (pss_one (ps_if (pt_cmp (pc_dnotin (hu_of hr) (pv 4) (pv 2))) (pss_cons (ps_dput (hu_of hr) (pv 2) (pv 4) pe_bl rfl)
          (pss_one (ps_expr (pe_bm PySem.F.plainAttrs_list PySem.F.slot_list_extend PySem.F.type_list_extend mt_extT (pv 3) (pa_cons (pmeth (pv 0) T.dWoodEldersOf (ok_elders_of T) hr pass0 (pa_cons (pv 4) pa_nil)) pa_nil))))) pss_nil))))
      (pss_cons (ps_setLc (i := 5) (own := [("number", 4)]) (g := gName 4) (tt := tB (tDNotIn (tVar 4) (tVar 2))) (te := tVar 4) rfl scWoodLetGo.nd rfl rfl (sw_true rfl rfl rfl (by decide +kernel)) (pi_list (pmeth0 (pv 0) T.dWoodMakes (ok_makes T) (hr.mono (by decide)) pass0)) (blkOk_by (N := nWoodLetGo) (sc := defScope sWoodLetGo) (by decide +kernel)) (fun _ _ _ _ _ => pg_name (i := 4) scWoodLetGo.nd rfl (Or.inl rfl))
          (fun _ _ _ _ _ => pts_one (pt_cmp (pc_dnotin (hu_of hr) (pv 4) (pv 2)) rfl)) (fun _ _ _ _ _ => pv 4))
      (pss_cons (ps_for PassesOwn.never rfl (pi_list (pv 5)) (pg_name (i := 4) scWoodLetGo.nd rfl (Or.inl rfl))
        (pss_one (ps_expr (pe_npop1 hr.units (pe_fld (pv 0) rfl) (pe_dpop1 (pe_fld (pv 0) rfl) (pv 4) ⟨rfl, rfl, rfl, rfl⟩) ⟨rfl, rfl, rfl, rfl⟩))))
      (pss_one (ps_ret (pv 5)))))))), ?_⟩
    intro d hd
    have s1 : Same H (upd H d (.dK [])) := Same.new hd
    have hd1 : (upd H d (.dK [])) d = some (.dK (trueK [])) := upd_same
    generalize upd H d (.dK []) = H1 at s1 hd1
    have W1 := W.same s1
    obtain ⟨dx1, ho1⟩ := W1.obj
    refine ⟨_, rfl, _, _, _, _, _, rfl, ho1, T.c_Wood, T.n_called, rfl, F.ca, _, rfl, W1.called, fun pv npv => ?_⟩
    have env : (calledK S.names).map (·.2) = (S.names.map (·.2)).map V.int := by
      unfold calledK
      rw [List.map_map, List.map_map]
      rfl
    rw [env]
    have s2 : Same H1 (upd H1 pv (.lst ((S.names.map (·.2)).map V.int))) := Same.new npv
    have hpv2 : (upd H1 pv (.lst ((S.names.map (·.2)).map V.int))) pv = some (.lst ((S.names.map (·.2)).map V.int)) := upd_same
    generalize upd H1 pv (.lst ((S.names.map (·.2)).map V.int)) = H2 at s2 hpv2
    have W2 := W1.same s2
    have ha2 := s2 _ _ (s1 _ _ ha)
    refine ⟨_, rfl, _, rfl, ⟨_, SqL.of ha2⟩, fun D nD => lc_same (Wk.list (SqL.of ha2) (by simp)) nD (fun i acc => acc = ((held.take i).filter fun n => decide (n ∈ S.nums)).map V.int) rfl ?_ ?_⟩
    · intro i v acc Hc hi hla hDc sc r hv
      rw [List.getElem?_map] at hv
      obtain ⟨n, hn, rfl⟩ := Option.map_eq_some_iff.mp hv
      have Wc := W2.same sc
      obtain ⟨dxc, hoc⟩ := Wc.obj
      refine ⟨rfl, _, rfl, _, _, _, rfl, hoc, rfl, _, rfl, F, S, n, rfl, Wc, _, rfl, ?_⟩
      by_cases hm : n ∈ S.nums
      · rw [decide_eq_true hm]
        refine iteT ⟨_, rfl, LcS.put nD sc hDc hla (by rw [List.length_map] at hi; rw [sizeLine_eq]; omega) ?_⟩
        rw [r, List.take_add_one, hn, List.filter_append, List.map_append]
        simp [hm]
      · rw [decide_eq_false hm]
        refine iteF (LcS.skip sc hDc hla ?_)
        rw [r, List.take_add_one, hn, List.filter_append, List.map_append]
        simp [hm]
    · intro acc H3 s3 r hD3
      rw [List.length_map, List.take_length] at r
      subst r
      have hot : (held.filter fun n => decide (n ∈ S.nums)).length ≤ held.length := List.length_filter_le _ _
      refine ⟨pv, D, _, _, rfl, rfl, s3 _ _ hpv2, hD3, by rw [List.length_map, List.length_map, List.length_map, sizeLine_eq]; omega, fun l nl => ?_⟩
      rw [← List.map_append]
      have est : S.names.map (·.2) ++ held.filter (fun n => decide (n ∈ S.nums)) = S.starts held := rfl
      rw [est]
      have s4 : Same H3 (upd H3 l (.lst ((S.starts held).map V.int))) := Same.new nl
      have hl4 : (upd H3 l (.lst ((S.starts held).map V.int))) l = some (.lst ((S.starts held).map V.int)) := upd_same
      generalize upd H3 l (.lst ((S.starts held).map V.int)) = H4 at s4 hl4
      have s04 : Same H H4 := ((s1.trans s2).trans s3).trans s4
      have nl0 : H l = none := Same.no ((s1.trans s2).trans s3) nl
      have hd4 : H4 d = some (.dK (trueK [])) := s4 _ _ (s3 _ _ (s2 _ _ hd1))
      have d_l : d ≠ l := by
        intro z
        rw [z, hl4] at hd4
        cases hd4
      have mul := mu_le G []
      have stn : ∀ x ∈ S.starts held, x ∈ S.nums := by
        intro x hx
        rcases List.mem_append.mp hx with hx | hx
        · obtain ⟨p, hp, rfl⟩ := List.mem_map.mp hx
          exact (G.nm p hp).2
        · exact of_decide_eq_true (List.mem_filter.mp hx).2
      have stl : (S.starts held).length < 1000 := by
        unfold Wo.starts
        rw [List.length_append, List.length_map]
        omega
      refine while_m (fun m σ Hc => ∃ found waiting x, σ = [some (.ref F.o), some (.ref a), some (.ref d), some (.ref l), x, none] ∧ Same H Hc ∧ Hc d = some (.dK (trueK found)) ∧ Hc l = some (.lst (waiting.map V.int)) ∧ Dfs S (S.starts held) found waiting ∧ m = mu S.ents found + waiting.length ∧ m ≤ 4 * S.ents.length + 1000)
        ⟨_, [], S.starts held, none, rfl, s04, hd4, hl4, Dfs.start stn, rfl, by omega⟩ ?_ tNeNil_mono
      rintro m σ Hc ⟨found, waiting, x, rfl, s, hdc, hlc, df, rfl, hm⟩
      refine ⟨l, _, rfl, hlc, fun H5 s5 => ?_⟩
      by_cases hw : waiting = []
      · subst hw
        refine iteF ?_
        have s05 := s.trans s5
        have W5 := W.same s05
        obtain ⟨dx5, ho5⟩ := W5.obj
        have hd5 := s5 _ _ hdc
        refine ⟨_, rfl, _, _, _, rfl, ho5, rfl, F, S, ws, rfl, W5, G, fun pm npm => ?_⟩
        have s6 : Same H5 (upd H5 pm (.lst (S.nums.map V.int))) := Same.new npm
        have hpm : (upd H5 pm (.lst (S.nums.map V.int))) pm = some (.lst (S.nums.map V.int)) := upd_same
        generalize upd H5 pm (.lst (S.nums.map V.int)) = H6 at s6 hpm
        have hall : ∀ n ∈ S.nums, (n ∈ found ↔ n ∈ line S (S.starts held)) := fun n hn => (df.all G).trans ⟨fun r => line_mem.mpr ⟨hn, r⟩, fun r => (line_mem.mp r).2⟩
        refine ⟨_, rfl, ⟨_, SqL.of hpm⟩, fun D2 nD2 => lc_same (Wk.list (SqL.of hpm) (by simp)) nD2 (fun i acc => acc = ((S.nums.take i).filter fun n => decide (n ∉ line S (S.starts held))).map V.int) rfl ?_ ?_⟩
        · intro i v acc Hc hi hla hDc sc r hv
          rw [List.getElem?_map] at hv
          obtain ⟨n, hn, rfl⟩ := Option.map_eq_some_iff.mp hv
          have hnl : S.nums.length = S.ents.length := List.length_map _
          unfold smallE at hl
          refine ⟨rfl, _, rfl, _, rfl, d, _, rfl, DGet.k (k := Sum.inl n) (sc _ _ (s6 _ _ hd5)), _, rfl, ?_⟩
          rw [trueK_some]
          have hk := hall n (List.mem_of_getElem? hn)
          by_cases hf : n ∈ found
          · rw [decide_eq_true hf]
            refine iteF (LcS.skip sc hDc hla ?_)
            rw [r, List.take_add_one, hn, List.filter_append, List.map_append]
            simp [hk.mp hf]
          · rw [decide_eq_false hf]
            refine iteT ⟨_, rfl, LcS.put nD2 sc hDc hla (by rw [List.length_map] at hi; rw [sizeLine_eq]; omega) ?_⟩
            rw [r, List.take_add_one, hn, List.filter_append, List.map_append]
            have : n ∉ line S (S.starts held) := fun z => hf (hk.mpr z)
            simp [this]
        · intro acc H7 s7 r hD2
          rw [List.length_map, List.take_length] at r
          subst r
          have eg : S.nums.filter (fun n => decide (n ∉ line S (S.starts held))) = S.gone held := rfl
          rw [eg] at hD2
          have s07 : Same H H7 := (s05.trans s6).trans s7
          have nD0 : H D2 = none := Same.no (s05.trans s6) nD2
          have W7 := W.same s07
          have hgn : ∀ n ∈ S.gone held, n ∈ S.nums := fun n hn => (List.mem_filter.mp hn).1
          have D2F : D2 ∉ F.l := by
            intro z
            obtain ⟨dx, ho⟩ := W.obj
            obtain ⟨es, h1, h2, h3⟩ := W.parts
            simp [WF.l] at z
            rcases z with rfl | rfl | rfl | rfl
            · rw [ho] at nD0; cases nD0
            · rw [h2] at nD0; cases nD0
            · rw [h3.at_] at nD0; cases nD0
            · rw [W.called] at nD0; cases nD0
          have gnd : (S.gone held).Nodup := (G.nums_rise.imp fun h => Int.ne_of_lt h).filter _
          refine ⟨_, rfl, _, rfl, ⟨_, SqL.of hD2⟩, for_wk (S := F.l) (Wk.list (SqL.of hD2) D2F) (fun i σ Hc => ∃ x4, σ = [some (.ref F.o), some (.ref a), some (.ref d), some (.ref l), x4, some (.ref D2)] ∧ Kp F.l H7 Hc ∧ WoodAt P w K Hc F (S.keep fun n => decide (n ∉ (S.gone held).take i)))
            ⟨_, rfl, Kp.refl, ?_⟩ (fun i σ Hc h => by obtain ⟨_, _, h, _⟩ := h; exact h) ?_ ?_⟩
          · have e0 : (S.keep fun n => decide (n ∉ (S.gone held).take 0)) = S := by
              unfold Wo.keep
              have : S.ents.filter (fun e => decide (e.n ∉ (S.gone held).take 0)) = S.ents := List.filter_eq_self.mpr fun e he => by simp
              rw [this]
            rw [e0]
            exact W7
          · rintro i x σ Hc Hc' hi ⟨x4, rfl, kc, Wc⟩ sc hx
            rw [List.getElem?_map] at hx
            obtain ⟨n, hn, rfl⟩ := Option.map_eq_some_iff.mp hx
            have Wc' := Wc.same sc
            obtain ⟨dx, ho⟩ := Wc'.obj
            obtain ⟨es, h1, h2, h3⟩ := id Wc'.parts
            obtain ⟨e, he, en⟩ := Wo.mem_nums.mp (hgn n (List.mem_of_getElem? hn))
            have hnt : n ∉ (S.gone held).take i := by
              intro z
              obtain ⟨hi2, ei⟩ := List.getElem?_eq_some_iff.mp hn
              obtain ⟨j, hj, ej⟩ := List.mem_take_iff_getElem.mp z
              have := (List.getElem_inj gnd).mp (ej.trans ei.symm)
              omega
            have hee : e ∈ (S.keep fun n => decide (n ∉ (S.gone held).take i)).ents := List.mem_filter.mpr ⟨he, decide_eq_true (by rw [en]; exact hnt)⟩
            have hese : ∀ p ∈ es, p.1 ∈ S.ents := fun p hp => by
              have : p.1 ∈ (S.keep fun n => decide (n ∉ (S.gone held).take i)).ents := by rw [← h1]; exact List.mem_map_of_mem hp
              exact (List.mem_filter.mp this).1
            have hs : (valV (keptK es) (Sum.inl n)).isSome = true := by
              rw [keptK_some, h1]
              exact decide_eq_true (List.mem_map.mpr ⟨e, hee, en⟩)
            rw [keptK_get, Option.isSome_map] at hs
            obtain ⟨p, hp⟩ := Option.isSome_iff_exists.mp hs
            have hg : valV (keptK es) (Sum.inl n) = some (V.ref p.2) := by rw [keptK_get, hp]; rfl
            obtain ⟨hpn, hpm⟩ := findD hp
            have hpe := hese p hpm
            obtain ⟨hk1, hk2⟩ := h3.keys _ (List.mem_map_of_mem (f := fun p : Ent × Addr => ((madeK p.1, p.2, p.1.n) : NEnt)) hpm)
            have kn_k : F.kn ≠ F.k := ne_of h3.at_ h2 (by intro z; cases z)
            have o_kn : F.o ≠ F.kn := ne_of ho h3.at_ (by intro z; cases z)
            have o_k : F.o ≠ F.k := ne_of ho h2 (by intro z; cases z)
            have ca_kn : F.ca ≠ F.kn := ne_of Wc'.called h3.at_ (by intro z; cases z)
            have hnv : nval (knownN es) (madeK p.1) = some p.1.n := by
              have := nval_known (es := es) (st := p.1.st) (el := p.1.el) (wd := p.1.wd)
              rw [show mk3 p.1.st p.1.el p.1.wd = madeK p.1 from rfl] at this
              rw [this]
              cases z : (es.map (·.1)).find? (fun e => decide (madeK e = madeK p.1)) with
              | none => exact absurd (decide_eq_true rfl) (List.find?_eq_none.mp z p.1 (List.mem_map_of_mem hpm))
              | some f =>
                obtain ⟨y1, y2⟩ := findD z
                obtain ⟨pf, hpf, rfl⟩ := List.mem_map.mp y2
                rw [G.made_inj (hese pf hpf) hpe y1]
                rfl
            let H8 : Hp := upd Hc' F.k (.dK (dropK (keptK es) (Sum.inl n)))
            have k8 : Kp [F.k] Hc' H8 := Kp.put h2 (fun z => z) (by simp)
            have h38 : NdAt P w H8 F.kn (knownN es) := h3.kp k8 (by simpa using kn_k)
            refine ⟨_, rfl, _, _, _, _, _, rfl, ho, T.c_Wood, T.n_known, rfl, F.kn, _, rfl, h3, _, rfl, _, _, _, _, _, rfl, ho, T.c_Wood, T.n_kept, rfl, F.k, rfl, .inl ⟨_, .inl h2⟩, _, rfl, _, Sum.inl n, _, h2, rfl, hg, ?_⟩
            refine ⟨p.2, madeK p.1, p.1.n, rfl, h38, hk1.kp k8, hk2, hnv, ?_⟩
            let H9 : Hp := upd H8 F.kn (NdO P w F.kn (ndrop (knownN es) (madeK p.1)))
            have k9 : Kp [F.kn] H8 H9 := Kp.put h38.at_ nkpt (by simp)
            have k79 : Kp F.l Hc' H9 := (k8.mono (by simp [WF.l])).trans (k9.mono (by simp [WF.l]))
            have eF : es.filter (fun q => decide (q.1.n ≠ n)) = es.filter (fun q => decide (q.1.n ≠ p.1.n)) := by rw [hpn]
            have ekn : ndrop (knownN es) (madeK p.1) = knownN (es.filter fun q => decide (q.1.n ≠ n)) := by
              rw [eF]
              exact knownN_drop fun q hq => ⟨fun z => by rw [G.made_inj (hese q hq) hpe z], fun z => by rw [G.uniq (hese q hq) hpe z]⟩
            have ek : dropK (keptK es) (Sum.inl n) = keptK (es.filter fun q => decide (q.1.n ≠ n)) := keptK_drop
            refine ⟨_, rfl, (kc.trans (.same sc)).trans k79, ⟨⟨dx, ?_⟩, ⟨es.filter fun q => decide (q.1.n ≠ n), ?_, ?_, ?_⟩, ?_, W.nd⟩⟩
            · exact (upd_ne o_kn).trans ((upd_ne o_k).trans ho)
            · have z := List.filter_map (f := fun p : Ent × Addr => p.1) (p := fun e : Ent => decide (e.n ≠ n)) (l := es)
              rw [h1] at z
              show List.map (fun p : Ent × Addr => p.1) (List.filter ((fun e : Ent => decide (e.n ≠ n)) ∘ fun p : Ent × Addr => p.1) es) = _
              rw [← z]
              unfold Wo.keep
              rw [List.filter_filter]
              refine List.filter_congr fun f hf => ?_
              have etk : (S.gone held).take (i + 1) = (S.gone held).take i ++ [n] := by rw [List.take_add_one, hn]; rfl
              rw [etk]
              by_cases z1 : f.n = n
              · simp [z1]
              · simp [z1]
            · rw [← ek]
              exact (upd_ne kn_k.symm).trans upd_same
            · rw [← ekn]
              refine ⟨upd_same, fun x hx => ?_, ?_⟩
              · obtain ⟨y1, y2⟩ := h38.keys x (List.mem_filter.mp hx).1
                exact ⟨y1.kp k9, y2⟩
              · exact Nat.lt_of_le_of_lt (List.length_filter_le _ _) h38.few
            · exact (upd_ne ca_kn).trans ((upd_ne W.nd.symm).trans Wc'.called)
          · rintro σ Hc ⟨x4, rfl, kc, Wc⟩
            refine ⟨_, rfl, q Hc D2 ((Kp.same s07).trans kc) nD0 (kc.at hD2 D2F) ?_⟩
            rw [List.length_map, List.take_length] at Wc
            have e1 : (S.keep fun n => decide (n ∉ S.gone held)) = S.stay held := by
              unfold Wo.stay Wo.keep
              have : S.ents.filter (fun e => decide (e.n ∉ S.gone held)) = S.ents.filter (fun e => decide (e.n ∈ line S (S.starts held))) := by
                refine List.filter_congr fun e he => ?_
                have hen : e.n ∈ S.nums := Wo.mem_nums.mpr ⟨e, he, rfl⟩
                refine decide_eq_decide.mpr ⟨fun z => ?_, fun z y => ?_⟩
                · by_cases y : e.n ∈ line S (S.starts held)
                  · exact y
                  · exact absurd (List.mem_filter.mpr ⟨hen, decide_eq_true y⟩) z
                · exact of_decide_eq_true (List.mem_filter.mp y).2 z
              rw [this]
            rw [← e1]
            exact Wc
      · obtain ⟨v, y, rfl⟩ := pop_last hw
        have hne : (!(List.map V.int (v ++ [y])).isEmpty) = true := by simp
        refine iteC hne ?_
        have hl2 := s5 _ _ hlc
        have hd2 := s5 _ _ hdc
        refine ⟨_, rfl, .inl ⟨rfl, _, SqL.of hl2⟩, l, _, .int y, rfl, rfl, hl2, by simp, ?_⟩
        have el : (List.map V.int (v ++ [y])).dropLast = v.map V.int := by simp
        rw [el]
        have s6 : Same H (upd H5 l (.lst (v.map V.int))) := Same.put0 (s.trans s5) nl0
        have hd6 : (upd H5 l (.lst (v.map V.int))) d = some (.dK (trueK found)) := (upd_ne d_l).trans hd2
        have hl6 : (upd H5 l (.lst (v.map V.int))) l = some (.lst (v.map V.int)) := upd_same
        refine ⟨_, rfl, _, rfl, d, _, rfl, DGet.k (k := Sum.inl y) hd6, _, rfl, ?_⟩
        rw [trueK_some]
        rw [List.length_append, List.length_singleton] at hm ⊢
        by_cases hy : y ∈ found
        · rw [decide_eq_true hy]
          exact iteF ⟨_, by omega, found, v, _, rfl, s6, hd6, hl6, df.skip hy, rfl, by omega⟩
        · rw [decide_eq_false hy]
          have hyn : y ∈ S.nums := df.m y (.inr (List.mem_append_right _ (List.mem_singleton.mpr rfl)))
          obtain ⟨f, hf, rfl⟩ := Wo.mem_nums.mp hyn
          have fl := nodup_len df.nd fun x hx => df.m x (.inl hx)
          unfold smallE at hl
          refine iteT ⟨_, rfl, _, rfl, d, _, rfl, DPut.k (k := Sum.inl f.n) hd6 (by rw [trueK_len, sizeLine_eq]; omega), ?_⟩
          rw [trueK_put]
          have epl : putL found f.n = found ++ [f.n] := if_neg hy
          rw [epl]
          have s7 : Same H (upd (upd H5 l (.lst (v.map V.int))) d (.dK (trueK (found ++ [f.n])))) := Same.put0 s6 hd
          have W7 := W.same s7
          obtain ⟨dx7, ho7⟩ := W7.obj
          have hl7 : (upd (upd H5 l (.lst (v.map V.int))) d (.dK (trueK (found ++ [f.n])))) l = some (.lst (v.map V.int)) := (upd_ne d_l.symm).trans hl6
          have muv := mu_visit hf hy
          have hfew := G.few f hf
          refine ⟨_, rfl, .inl ⟨rfl, _, SqL.of hl7⟩, _, rfl, _, _, _, rfl, ho7, rfl, _, rfl, F, S, f.n, rfl, W7, hyn, fun e' he' en' a' ha' => ?_⟩
          obtain rfl := G.uniq he' hf en'
          refine ⟨l, a', _, _, rfl, rfl, hl7, ha', by rw [List.length_map, List.length_map, sizeLine_eq]; omega, ?_⟩
          rw [← List.map_append]
          refine ⟨_, ?_, found ++ [e'.n], v ++ e'.el, _, rfl, Same.put0 s7 nl0, (upd_ne d_l).trans upd_same, upd_same, df.visit G hf hy, rfl, ?_⟩
          · rw [List.length_append]
            omega
          · rw [List.length_append]
            omega
end
end Mw

/-! The law's feed: _law_cell_at, _law_feed, _law_take, _law_words. -/
namespace Mw
open PySem PySem.Spec PyProof.Rows L2
def FeedAt (H : Hp) (f : Addr) : Prop := ∃ x b, H f = some (.lst [.int x, .bl b])
theorem FeedAt.same {H H' : Hp} {f : Addr} (h : FeedAt H f) (s : Same H H') : FeedAt H' f := by
  obtain ⟨x, b, e⟩ := h
  exact ⟨x, b, s _ _ e⟩
theorem FeedAt.kp {H H' : Hp} {f : Addr} {X : List Addr} (h : FeedAt H f) (s : Kp X H H') (n : f ∉ X) : FeedAt H' f := by
  obtain ⟨x, b, e⟩ := h
  exact ⟨x, b, s.at e n⟩
section
variable {P : Program} {w : World} {K : PySem.W.Frag} {mg : Str → Option Value} {base : Heap}
def spCellAt (K : PySem.W.Frag) : Sp := fun vs H Q _ => ∃ (a : Addr) (ns : List Int), vs = [.ref a, .int 0] ∧ SqL K H a (ns.map V.int) ∧ ns.length ≤ 1000 ∧ ∀ r, Q (.int r) H
theorem ok_cell_at (T : Tx K mg) : OkG P w K mg base CX0 1 "_law_cell_at" ["_law_script", "_law_k"] (spCellAt K) := by
  refine T.fLawCellAt.ok scLawCellAt (fun vs H Q E h => ?_) (fun cdv A outer s H vs Q E hr h => ?_)
  · obtain ⟨a, ns, rfl, _⟩ := h
    rfl
  · obtain ⟨a, ns, rfl, ha, hl, q⟩ := h
    refine ⟨_, PSs.nox (pss_cons (ps_if (pt_cmpR op_lt (pv 1) (pe_callB call_len_seq (by rfl) T.b_len PySem.boot_len (pa_cons (pv 0) pa_nil)) (nomark _)) (pss_one (ps_ret (pe_ix ix_list (pv 0) (pv 1) (fun _ _ => rfl)))) pss_nil)
      (pss_one (ps_ret pe_int))), ?_⟩
    refine ⟨_, rfl, _, rfl, _, _, rfl, .inl ha, _, _, rfl, rfl, _, rfl, ?_⟩
    cases ns with
    | nil => exact iteN (decide_eq_false (by simp)) (q 0)
    | cons n ns => exact iteC (decide_eq_true (by simp)) ⟨_, rfl, _, rfl, _, _, _, _, rfl, rfl, ha, atI_nat (j := 0) rfl, q n⟩
def spFeed : Sp := fun vs H Q _ => ∃ c k : Int, vs = [.int c, .int k] ∧ ∀ p x b, H p = none → Q (.ref p) (upd H p (.lst [.int x, .bl b]))
theorem ok_feed (T : Tx K mg) : OkG P w K mg base CX0 1 "_law_feed" ["_law_cell", "_law_k"] spFeed := by
  refine T.fLawFeed.ok scLawFeed (fun vs H Q E h => ?_) (fun cdv A outer s H vs Q E hr h => ?_)
  · obtain ⟨c, k, rfl, _⟩ := h
    rfl
  · obtain ⟨c, k, rfl, q⟩ := h
    refine ⟨_, PSs.nox (pss_cons (ps_if (pt_cmpR op_eq (pe_op op_mod (pv 0) pe_int) pe_int (nomark _)) (pss_one (ps_ret (pe_lst (pa_cons (pe_op op_add (pe_op op_mod (pe_op op_add (pv 0) (pe_op op_mul pe_int (pv 1))) pe_int) pe_int) (pa_cons pe_bl pa_nil))))) pss_nil)
      (pss_one (ps_ret (pe_lst (pa_cons (pe_op op_fdiv (pv 0) pe_int) (pa_cons pe_bl pa_nil)))))), ?_⟩
    refine ⟨_, rfl, _, _, rfl, rfl, by show (0 : Int) < 2; decide, rfl, _, rfl, ite2 (fun _ => ?_) (fun _ => ?_)⟩
    · exact ⟨_, rfl, _, rfl, _, _, rfl, rfl, .inl (by show -(2 ^ 64) < (7919 : Int) ∧ (7919 : Int) < 2 ^ 64; decide), _, _, rfl, rfl, _, _, rfl, rfl, by show (0 : Int) < 2147483646; decide, _, _, rfl, rfl, by show 2 ≤ sizeLine; decide, fun p np => q p _ _ np⟩
    · exact ⟨_, rfl, _, _, rfl, rfl, ⟨by decide, by decide⟩, by show 2 ≤ sizeLine; decide, fun p np => q p _ _ np⟩
def spTake : Sp := fun vs H Q _ => ∃ (f : Addr) (x : Int) (b : Bool) (many : Int), vs = [.ref f, .int many] ∧ H f = some (.lst [.int x, .bl b]) ∧ 1 ≤ many ∧ many < 1073741824 ∧
  ∀ r y, 0 ≤ r → r < many → Q (.int r) (upd H f (.lst [.int y, .bl b]))
theorem ok_take (T : Tx K mg) : OkG P w K mg base CX0 1 "_law_take" ["_law_feed_here", "_law_many"] spTake := by
  refine T.fLawTake.ok scLawTake (fun vs H Q E h => ?_) (fun cdv A outer s H vs Q E hr h => ?_)
  · obtain ⟨f, x, b, many, rfl, _⟩ := h
    rfl
  · obtain ⟨f, x, b, many, rfl, hf, h1, h2, q⟩ := h
    refine ⟨_, PSs.nox (pss_cons (ps_if (pt_val (pe_ix ix_list (pv 0) pe_int (fun _ _ => rfl)))
        (pss_cons (ps_asg (pe_op op_mod (pe_op op_add (pe_op op_mul (pe_ix ix_list (pv 0) pe_int (fun _ _ => rfl)) pe_int) pe_int) pe_int) (pg_sub (pv 0) pe_int set_list))
        (pss_one (ps_ret (pe_op op_mod (pe_op op_fdiv (pe_op op_mod (pe_op op_mul (pe_ix ix_list (pv 0) pe_int (fun _ _ => rfl)) pe_int) pe_int) pe_int) (pv 1))))) pss_nil)
      (pss_cons (ps_set (i := 2) scLawTake.nd rfl (Or.inl rfl) (pe_op op_mod (pe_ix ix_list (pv 0) pe_int (fun _ _ => rfl)) (pv 1)))
      (pss_cons (ps_asg (pe_op op_fdiv (pe_ix ix_list (pv 0) pe_int (fun _ _ => rfl)) (pv 1)) (pg_sub (pv 0) pe_int set_list))
      (pss_one (ps_ret (pv 2)))))), ?_⟩
    refine ⟨_, rfl, _, _, _, _, rfl, rfl, SqL.of hf, atI_nat (j := 1) rfl, b, rfl, ?_⟩
    cases b with
    | true =>
      refine iteT ⟨_, rfl, _, _, _, _, rfl, rfl, SqL.of hf, atI_nat (j := 0) rfl, _, _, rfl, rfl, .inr (by show -(2 ^ 64) < (48271 : Int) ∧ (48271 : Int) < 2 ^ 64; decide), _, _, rfl, rfl, _, _, rfl, rfl, by show (0 : Int) < 2147483647; decide, ?_⟩
      refine ⟨_, rfl, _, _, _, 0, rfl, rfl, hf, rfl, ?_⟩
      refine ⟨_, rfl, _, _, _, _, rfl, rfl, SqL.of upd_same, atI_nat (j := 0) rfl, _, _, rfl, rfl, .inr (by show -(2 ^ 64) < (69621 : Int) ∧ (69621 : Int) < 2 ^ 64; decide), _, _, rfl, rfl, by show (0 : Int) < 2147483629; decide, _, _, rfl, rfl, ⟨by decide, by decide⟩, _, rfl, _, _, rfl, rfl, by show 0 < many; omega, ?_⟩
      exact q _ _ (Int.emod_nonneg _ (by omega)) (Int.emod_lt_of_pos _ (by omega))
    | false =>
      refine iteF ⟨_, rfl, _, _, _, _, rfl, rfl, SqL.of hf, atI_nat (j := 0) rfl, _, rfl, _, _, rfl, rfl, by show 0 < many; omega, ?_⟩
      refine ⟨_, rfl, _, _, _, _, rfl, rfl, SqL.of hf, atI_nat (j := 0) rfl, _, rfl, _, _, rfl, rfl, ⟨by omega, by omega⟩, ?_⟩
      refine ⟨_, rfl, _, _, _, 0, rfl, rfl, hf, rfl, _, rfl, ?_⟩
      exact q _ _ (Int.emod_nonneg _ (by omega)) (Int.emod_lt_of_pos _ (by omega))
end
end Mw

/-! _law_words. -/
namespace Mw
open PySem PySem.Spec PyProof.Rows L2
def signsS : Str := ⟨((List.range 95).filter fun k => decide (k ≠ 5)).map (· + 32) |>.toArray⟩
def words8 : List Str := ["ab", "a", "", "x|y", "5:", repA, "b", "-"]
theorem words8_good : ∀ x ∈ words8, GoodLine x := by decide +kernel
theorem signs_good : signsS.length = 94 ∧ ∀ c ∈ signsS.cps.toList, 32 ≤ c ∧ c ≤ 126 ∧ c ≠ 37 := by decide +kernel
section
variable {P : Program} {w : World} {K : PySem.W.Frag} {mg : Str → Option Value} {base : Heap}
def spWords : Sp := fun vs H Q _ => ∃ f : Addr, vs = [.ref f] ∧ FeedAt H f ∧ ∀ x H', GoodLine x → Kp [f] H H' → FeedAt H' f → Q (.str x) H'
theorem FeedAt.put {H : Hp} {f : Addr} {x : Int} {b : Bool} {o : HO} (h : H f = some (.lst [.int x, .bl b])) : Kp [f] H (upd H f o) := Kp.put h (fun z => z) (by simp)
theorem int_nat {r : Int} {n : Nat} (h0 : 0 ≤ r) (h1 : r < n) : ∃ m : Nat, r = m ∧ m < n := ⟨r.toNat, by omega, by omega⟩
theorem ok_words (T : Tx K mg) : OkG P w K mg base CX0 2 "_law_words" ["_law_feed_here"] spWords := by
  refine T.fLawWords.ok scLawWords (fun vs H Q E h => ?_) (fun cdv A outer s H vs Q E hr h => ?_)
  · obtain ⟨f, rfl, _⟩ := h
    rfl
  · obtain ⟨f, rfl, ⟨x, b, hf⟩, q⟩ := h
    refine ⟨_, PSs.nox (pss_cons (ps_set (i := 1) scLawWords.nd rfl (Or.inl rfl) pe_str)
      (pss_cons (ps_set (i := 2) scLawWords.nd rfl (Or.inl rfl) (pcall T.dLawTake (ok_take T) hr pass0 (pa_cons (pv 0) (pa_cons pe_int pa_nil))))
      (pss_cons (ps_if (pt_cmpR op_lt (pv 2) pe_int (nomark _)) (pss_one (ps_ret (pe_ix ix_list (pe_lst (pa_cons pe_str (pa_cons pe_str (pa_cons pe_str (pa_cons pe_str (pa_cons pe_str (pa_cons (pe_op op_repA pe_str pe_int) (pa_cons pe_str (pa_cons pe_str pa_nil))))))))) (pv 2) (fun _ _ => rfl)))) pss_nil)
      (pss_cons (ps_set (i := 3) scLawWords.nd rfl (Or.inl rfl) pe_str)
      (pss_cons (ps_for PassesOwn.never rfl (pi_range1 (by rfl) T.b_range (pa_cons (pcall T.dLawTake (ok_take T) hr pass0 (pa_cons (pv 0) (pa_cons (pe_ix ix_list (pe_lst (pa_cons pe_int (pa_cons pe_int pa_nil))) (pe_op op_sub (pv 2) pe_int) (fun _ _ => rfl)) pa_nil))) pa_nil)) (pg_name (i := 4) scLawWords.nd rfl (Or.inl rfl))
        (pss_one (ps_set (i := 3) scLawWords.nd rfl (Or.inl rfl) (pe_op op_add_str (pv 3) (pe_ix ix_str (pv 1) (pcall T.dLawTake (ok_take T) hr pass0 (pa_cons (pv 0) (pa_cons pe_int pa_nil))) (fun _ _ => rfl))))))
      (pss_one (ps_ret (pv 3)))))))), ?_⟩
    refine ⟨_, rfl, f, x, b, _, rfl, hf, by omega, by omega, fun way y w0 w1 => ?_⟩
    have k1 : Kp [f] H (upd H f (.lst [.int y, .bl b])) := FeedAt.put hf
    have hf1 : (upd H f (.lst [.int y, .bl b])) f = some (.lst [.int y, .bl b]) := upd_same
    generalize upd H f (.lst [.int y, .bl b]) = H1 at k1 hf1
    refine ⟨_, rfl, _, _, rfl, rfl, _, rfl, ite2 (fun hlt => ?_) (fun hlt => ?_)⟩
    · have hlt : way < 8 := of_decide_eq_true hlt
      obtain ⟨n, rfl, hn⟩ := int_nat (n := 8) w0 hlt
      refine ⟨rfl, rfl, by show 8 ≤ sizeLine; decide, fun p np => ?_⟩
      have hk : words8[n]? = some (words8[n]'hn) := List.getElem?_eq_getElem hn
      refine ⟨_, rfl, p, words8.map V.str, _, .str (words8[n]'hn), rfl, rfl, SqL.of upd_same, atI_nat (j := n) (by rw [List.getElem?_map, hk]; rfl), ?_⟩
      exact q _ _ (words8_good _ (List.mem_of_getElem? hk)) (k1.trans (.new np)) ⟨y, b, (Same.new np) _ _ hf1⟩
    · have hlt : ¬ way < 8 := fun z => hlt (decide_eq_true z)
      refine ⟨_, rfl, by show 2 ≤ sizeLine; decide, fun p np => ?_⟩
      have k2 := k1.trans (Kp.new (o := .lst [.int 4, .int 41]) np)
      have hf2 := (Same.new (o := .lst [.int 4, .int 41]) np) _ _ hf1
      have hp2 : (upd H1 p (.lst [.int 4, .int 41])) p = _ := upd_same
      generalize upd H1 p (.lst [.int 4, .int 41]) = H2 at k2 hf2 hp2
      have hw : way = 8 ∨ way = 9 := by omega
      refine ⟨_, rfl, _, _, rfl, rfl, ?_⟩
      obtain ⟨many, hm, hm1, hm2⟩ : ∃ many : Int, atI [V.int 4, V.int 41] (way - 8) = some (.int many) ∧ 1 ≤ many ∧ many ≤ 41 := by
        rcases hw with rfl | rfl
        · exact ⟨4, atI_nat (j := 0) rfl, by omega, by omega⟩
        · exact ⟨41, atI_nat (j := 1) rfl, by omega, by omega⟩
      refine ⟨p, _, _, .int many, rfl, rfl, SqL.of hp2, hm, f, y, b, many, rfl, hf2, hm1, by omega, fun r z r0 r1 => ?_⟩
      have k3 : Kp [f] H2 (upd H2 f (.lst [.int z, .bl b])) := FeedAt.put hf2
      have hf3 : FeedAt (upd H2 f (.lst [.int z, .bl b])) f := ⟨z, b, upd_same⟩
      generalize upd H2 f (.lst [.int z, .bl b]) = H3 at k3 hf3
      have fH : ∃ u, H f = some u ∧ ¬ Kpt u := ⟨_, hf, fun z => z⟩
      refine ⟨r, rfl, by omega, by omega, for_wk (S := [f]) Wk.range (fun i σ Hc => ∃ sg tx x4, σ = [some (.ref f), some (.str sg), some (.int way), some (.str tx), x4] ∧ sg = signsS ∧ tx.length ≤ i ∧ (∀ c ∈ tx.cps.toList, 32 ≤ c ∧ c ≤ 126 ∧ c ≠ 37) ∧ Kp [f] H3 Hc ∧ FeedAt Hc f)
        ⟨_, "", none, rfl, by decide +kernel, Nat.le_refl _, by decide +kernel, Kp.refl, hf3⟩ (fun i σ Hc h => by obtain ⟨_, _, _, _, _, _, _, h, _⟩ := h; exact h) ?_ ?_⟩
      · rintro i v σ Hc Hc' hi ⟨sg, tx, x4, rfl, rfl, ht1, ht2, kc, hfc⟩ sc rfl
        obtain ⟨y', b', hf4⟩ := hfc.same sc
        refine ⟨_, rfl, _, rfl, _, rfl, f, y', b', 94, rfl, hf4, by omega, by omega, fun c y2 c0 c1 => ?_⟩
        obtain ⟨n, rfl, hn⟩ := int_nat (n := 94) c0 c1
        have sl : signsS.cps.toList.length = 94 := signs_good.1
        have hk : signsS.cps.toList[n]? = some (signsS.cps.toList[n]'(by omega)) := List.getElem?_eq_getElem _
        refine ⟨_, _, _, rfl, rfl, by rw [signs_good.1, sizeLine_eq]; omega, atI_nat (j := n) hk, _, _, rfl, rfl, ?_, ?_⟩
        · show tx.length + 1 ≤ sizeLine
          rw [sizeLine_eq]
          omega
        · refine ⟨signsS, tx ++ ⟨#[signsS.cps.toList[n]'(by omega)]⟩, _, rfl, rfl, ?_, ?_, (kc.trans (.same sc)).trans (FeedAt.put hf4), ⟨_, _, upd_same⟩⟩
          · rw [Str.length_append]
            show tx.length + 1 ≤ i + 1
            omega
          · intro d hd
            have e : (tx ++ (⟨#[signsS.cps.toList[n]'(by omega)]⟩ : Str)).cps.toList = tx.cps.toList ++ [signsS.cps.toList[n]'(by omega)] := Array.toList_append
            rw [e] at hd
            rcases List.mem_append.mp hd with hd | hd
            · exact ht2 d hd
            · rw [List.mem_singleton.mp hd]
              exact signs_good.2 _ (List.getElem_mem _)
      · rintro σ Hc ⟨sg, tx, x4, rfl, rfl, ht1, ht2, kc, hfc⟩
        exact ⟨_, rfl, q tx Hc ⟨by omega, ht2⟩ ((k2.trans k3).trans kc) hfc⟩
end
end Mw

/-! What is written of rows of lines is unlike where they are unlike; _law_written. -/
namespace Mw
open PySem PySem.Spec PyProof.Rows L2
def cp (x : Str) : List Nat := x.cps.toList
theorem cp_append (a b : Str) : cp (a ++ b) = cp a ++ cp b := Array.toList_append
theorem cp_len (x : Str) : (cp x).length = x.length := rfl
theorem cp_inj {a b : Str} (h : cp a = cp b) : a = b := Str.ext' (Array.toList_inj.mp h)
theorem join0 : ∀ xs : List Str, cp (Txt.join "" xs) = (xs.map cp).flatten := by
  intro xs
  have e : Txt.join "" xs = Str.join "" xs := StrLaws.glued_eq_join "" xs
  rw [e]
  induction xs with
  | nil => rfl
  | cons x r ih =>
    rw [List.map_cons, List.flatten_cons]
    cases r with
    | nil =>
      show cp x = _
      simp
    | cons y r =>
      show cp (x ++ "" ++ Str.join "" (y :: r)) = _
      rw [cp_append, cp_append, ih (StrLaws.glued_eq_join "" _)]
      have : cp ("" : Str) = [] := by decide +kernel
      rw [this, List.append_nil]
theorem join0_snoc {xs : List Str} {x : Str} : Txt.join "" (xs ++ [x]) = Txt.join "" xs ++ x := by
  refine cp_inj ?_
  rw [cp_append, join0, join0, List.map_append, List.flatten_append]
  simp
def dig (n : Nat) : List Nat := cp (Str.ofString (toString (n : Int)))
theorem cp_wText (x : Str) : cp (wText x) = dig x.length ++ 58 :: cp x := by
  unfold wText
  rw [cp_append, cp_append]
  have : cp (":" : Str) = [58] := by decide +kernel
  rw [this, List.append_assoc]
  rfl
theorem cp_wItems (xs : List Str) : cp (wItems xs) = 91 :: ((xs.map fun x => cp (wText x)).flatten ++ [93]) := by
  unfold wItems
  rw [cp_append, cp_append, join0, List.map_map]
  have h1 : cp ("[" : Str) = [91] := by decide +kernel
  have h2 : cp ("]" : Str) = [93] := by decide +kernel
  rw [h1, h2]
  rfl
theorem dig_facts : ∀ n : Fin 41, (dig n.val ≠ []) ∧ (∀ c ∈ dig n.val, 48 ≤ c ∧ c ≤ 57) := by decide +kernel
theorem dig_inj : ∀ n m : Fin 41, dig n.val = dig m.val → n = m := by decide +kernel
theorem cut58 : ∀ {a b r s : List Nat}, (∀ c ∈ a, c ≠ 58) → (∀ c ∈ b, c ≠ 58) → a ++ 58 :: r = b ++ 58 :: s → a = b ∧ r = s
  | [], [], r, s, _, _, h => ⟨rfl, by simpa using h⟩
  | [], y :: b, r, s, _, hb, h => by
    rw [List.nil_append, List.cons_append] at h
    injection h with h1 _
    exact absurd h1.symm (hb y List.mem_cons_self)
  | x :: a, [], r, s, ha, _, h => by
    rw [List.nil_append, List.cons_append] at h
    injection h with h1 _
    exact absurd h1 (ha x List.mem_cons_self)
  | x :: a, y :: b, r, s, ha, hb, h => by
    rw [List.cons_append, List.cons_append] at h
    injection h with h1 h2
    obtain ⟨e1, e2⟩ := cut58 (fun c hc => ha c (List.mem_cons_of_mem _ hc)) (fun c hc => hb c (List.mem_cons_of_mem _ hc)) h2
    exact ⟨by rw [h1, e1], e2⟩
theorem items_inj : ∀ {xs ys : List Str}, (∀ x ∈ xs, x.length ≤ 40) → (∀ y ∈ ys, y.length ≤ 40) → (xs.map fun x => cp (wText x)).flatten ++ [93] = (ys.map fun x => cp (wText x)).flatten ++ [93] → xs = ys
  | [], [], _, _, _ => rfl
  | [], y :: ys, _, hy, h => by
    exfalso
    have hl := hy y List.mem_cons_self
    obtain ⟨d1, d2⟩ := dig_facts ⟨y.length, by omega⟩
    rw [List.map_cons, List.flatten_cons, cp_wText, List.map_nil, List.flatten_nil, List.nil_append] at h
    cases hd : dig y.length with
    | nil => exact d1 hd
    | cons c r =>
      rw [hd] at h
      simp only [List.cons_append] at h
      injection h with h1 _
      have := d2 c (by show c ∈ dig y.length; rw [hd]; exact List.mem_cons_self)
      omega
  | x :: xs, [], hx, _, h => by
    exfalso
    have hl := hx x List.mem_cons_self
    obtain ⟨d1, d2⟩ := dig_facts ⟨x.length, by omega⟩
    rw [List.map_cons, List.flatten_cons, cp_wText, List.map_nil, List.flatten_nil, List.nil_append] at h
    cases hd : dig x.length with
    | nil => exact d1 hd
    | cons c r =>
      rw [hd] at h
      simp only [List.cons_append] at h
      injection h with h1 _
      have := d2 c (by show c ∈ dig x.length; rw [hd]; exact List.mem_cons_self)
      omega
  | x :: xs, y :: ys, hx, hy, h => by
    have hlx := hx x List.mem_cons_self
    have hly := hy y List.mem_cons_self
    rw [List.map_cons, List.flatten_cons, cp_wText, List.map_cons, List.flatten_cons, cp_wText] at h
    simp only [List.append_assoc, List.cons_append] at h
    obtain ⟨_, d2⟩ := dig_facts ⟨x.length, by omega⟩
    obtain ⟨_, d3⟩ := dig_facts ⟨y.length, by omega⟩
    obtain ⟨e1, e2⟩ := cut58 (fun c hc => by have := d2 c hc; omega) (fun c hc => by have := d3 c hc; omega) h
    have e3 : x.length = y.length := by
      have := dig_inj ⟨x.length, by omega⟩ ⟨y.length, by omega⟩ e1
      exact congrArg Fin.val this
    have e4 := List.append_inj e2 (by rw [cp_len, cp_len, e3])
    rw [cp_inj e4.1, items_inj (fun z hz => hx z (List.mem_cons_of_mem _ hz)) (fun z hz => hy z (List.mem_cons_of_mem _ hz)) e4.2]
theorem wItems_inj {xs ys : List Str} (hx : ∀ x ∈ xs, x.length ≤ 40) (hy : ∀ y ∈ ys, y.length ≤ 40) (h : cp (wItems xs) = cp (wItems ys)) : xs = ys := by
  rw [cp_wItems, cp_wItems] at h
  injection h with _ h
  exact items_inj hx hy h
theorem lt_of_not {a b : List Nat} (h : ¬ b < a) (ne : a ≠ b) : a < b := by
  by_cases z : a < b
  · exact z
  · exact absurd (List.le_antisymm (List.not_lt.mp h) (List.not_lt.mp z)) ne
section
variable {P : Program} {w : World} {K : PySem.W.Frag} {mg : Str → Option Value} {base : Heap}
def spWritten : Sp := fun vs H Q _ => ∃ (a : Addr) (xs : List Str), vs = [.ref a] ∧ H a = some (.tup (xs.map V.str)) ∧ xs.length ≤ 100 ∧ (∀ x ∈ xs, x.length ≤ 40) ∧ ∀ H', Same H H' → Q (.str (wItems xs)) H'
theorem wtake {xs : List Str} (hn : xs.length ≤ 100) (hx : ∀ x ∈ xs, x.length ≤ 40) (i : Nat) : (Txt.join "" ((xs.take i).map wText)).length ≤ 5100 := by
  have := joined_len (xs := (xs.take i).map wText) (n := 100) (m := 51) (by rw [List.length_map]; have := List.length_take_le i xs; have : (xs.take i).length ≤ xs.length := (List.take_sublist _ _).length_le; omega) (fun y hy => by
    obtain ⟨x, hm, rfl⟩ := List.mem_map.mp hy
    have hm2 := List.mem_of_mem_take hm
    have := wText_len (x := x) (by have := hx x hm2; omega)
    have := hx x hm2
    omega)
  omega
theorem ok_written (T : Tx K mg) : OkG P w K mg base CX0 1 "_law_written" ["_law_items_here"] spWritten := by
  refine T.fLawWritten.ok scLawWritten (fun vs H Q E h => ?_) (fun cdv A outer s H vs Q E hr h => ?_)
  · obtain ⟨a, xs, rfl, _⟩ := h
    rfl
  · obtain ⟨a, xs, rfl, ha, hn, hx, q⟩ := h
    refine ⟨_, PSs.nox (pss_cons (ps_set (i := 1) scLawWritten.nd rfl (Or.inl rfl) pe_str)
      (pss_cons (ps_for PassesOwn.never rfl (pi_tup (pv 0)) (pg_name (i := 2) scLawWritten.nd rfl (Or.inl rfl))
        (pss_one (ps_if (pt_val (pe_is .str (pv 2) T.b_isinstance T.b_str)) (pss_one (ps_set (i := 1) scLawWritten.nd rfl (Or.inl rfl)
          (pe_op op_add_str (pe_op op_add_str (pe_op op_add_str (pv 1) (pe_callTy call_str_int (by rfl) T.b_str (by decide +kernel) (pa_cons (pe_callB call_len_str (by rfl) T.b_len PySem.boot_len (pa_cons (pv 2) pa_nil)) pa_nil))) pe_str) (pv 2))))
          (pss_cons ps_never (pss_one ps_never)))))
      (pss_one (ps_ret (pe_op op_add_str (pv 1) pe_str))))), ?_⟩
    refine ⟨_, rfl, _, rfl, ⟨_, SqT.of ha⟩, for_wk (S := []) (Wk.tup (SqT.of ha)) (fun i σ Hc => ∃ x2, σ = [some (.ref a), some (.str ("[" ++ Txt.join "" ((xs.take i).map wText))), x2, none, none] ∧ Same H Hc)
      ⟨none, ?_, Same.refl _⟩ (fun i σ Hc h => by obtain ⟨_, _, h⟩ := h; exact .same h) ?_ ?_⟩
    · have : ("[" : Str) ++ Txt.join "" ((xs.take 0).map wText) = "[" := by
        rw [List.take_zero, List.map_nil]
        rfl
      rw [this]
      rfl
    · rintro i v σ Hc Hc' hi ⟨x2, rfl, sc⟩ s2 hv
      rw [List.getElem?_map] at hv
      obtain ⟨x, hk, rfl⟩ := Option.map_eq_some_iff.mp hv
      have hm := List.mem_of_getElem? hk
      have hl := hx x hm
      have wl := wtake hn hx i
      have h1 : ("[" : Str).length = 1 := by decide +kernel
      have h2 : (":" : Str).length = 1 := by decide +kernel
      have h3 := len_num (n := x.length) (by omega)
      refine ⟨_, rfl, _, _, rfl, .str _, _, rfl, iteT ⟨_, rfl, _, rfl, _, rfl, by rw [sizeLine_eq]; omega, _, rfl, log40 (by omega), _, _, rfl, rfl, ?_, _, _, rfl, rfl, ?_, _, rfl, _, _, rfl, rfl, ?_, ?_⟩⟩
      · rw [Str.length_append, sizeLine_eq]
        omega
      · rw [Str.length_append, Str.length_append, sizeLine_eq]
        omega
      · rw [Str.length_append, Str.length_append, Str.length_append, sizeLine_eq]
        omega
      · refine ⟨some (.str x), ?_, sc.trans s2⟩
        have e : ((("[" : Str) ++ Txt.join "" ((xs.take i).map wText) ++ Str.ofString (toString (x.length : Int))) ++ (":" : Str)) ++ x = "[" ++ Txt.join "" ((xs.take (i + 1)).map wText) := by
          rw [List.take_add_one, hk, List.map_append]
          show _ = ("[" : Str) ++ Txt.join "" (_ ++ [wText x])
          rw [join0_snoc]
          unfold wText
          simp only [Str.append_assoc]
        rw [← e]
        rfl
    · rintro σ Hc ⟨x2, rfl, sc⟩
      have wl := wtake hn hx xs.length
      have h1 : ("[" : Str).length = 1 := by decide +kernel
      have h2 : ("]" : Str).length = 1 := by decide +kernel
      rw [List.length_map]
      refine ⟨_, rfl, _, _, rfl, rfl, by rw [Str.length_append, sizeLine_eq]; omega, ?_⟩
      rw [List.take_length]
      exact q Hc sc
end
end Mw

/-! _law_items: of lines; of lines and clashes. -/
namespace Mw
open PySem PySem.Spec PyProof.Rows L2
theorem pss_imp {X : Cx} {b : List Stmt} {t t' : TS} (h : PSs X b t) (k : ∀ D σ H, t' D σ H → t D σ H) : PSs X b t' := ⟨fun pins s σ H D I z => h.run pins s σ H D I (k D σ H z)⟩
section
variable {P : Program} {w : World} {K : PySem.W.Frag} {mg : Str → Option Value} {base : Heap}
def Parts2 (xs : List Str) : Prop := xs.length ≤ 2 ∧ ∀ x ∈ xs, GoodLine x
def spItems0 : Sp := fun vs H Q _ => ∃ (f : Addr) (many : Int), vs = [.ref f, .int many, .int 0] ∧ FeedAt H f ∧ 0 ≤ many ∧ many ≤ 2 ∧
  ∀ xs a H', Parts2 xs → Kp [f] H H' → FeedAt H' f → H' a = some (.tup (xs.map V.str)) → Q (.ref a) H'
theorem ok_items0L (T : Tx K mg) : OkG P w K mg base CX0 3 "_law_items" ["_law_feed_here", "_law_many", "_law_deep"] spItems0 := by
  refine T.fLawItems.ok scLawItems (fun vs H Q E h => ?_) (fun cdv A outer s H vs Q E hr h => ?_)
  · obtain ⟨f, many, rfl, _⟩ := h
    rfl
  · obtain ⟨f, many, rfl, hf, m0, m2, q⟩ := h
    refine ⟨_, PSs.nox (pss_cons (ps_set (i := 3) scLawItems.nd rfl (Or.inl rfl) (pe_lst pa_nil))
      (pss_cons (ps_for PassesOwn.never rfl (pi_range1 (by rfl) T.b_range (pa_cons (pv 1) pa_nil)) (pg_name (i := 4) scLawItems.nd rfl (Or.inl rfl))
        (pss_one (ps_if (PW.pt (pw_and (pt_cmpR op_gt (pv 2) pe_int (nomark _)) (pw_and1 (pt_cmpR op_eq (pcall T.dLawTake (ok_take T) (hr.mono (by decide)) pass0 (pa_cons (pv 0) (pa_cons pe_int pa_nil))) pe_int (nomark _)))))
          (pss_cons ps_never (pss_cons ps_never (pss_cons ps_never (pss_one ps_never))))
          (pss_one (ps_expr (pe_bm PySem.F.plainAttrs_list PySem.F.slot_list_append PySem.F.type_list_append mt_append (pv 3) (pa_cons (pcall T.dLawWords (ok_words T) hr pass0 (pa_cons (pv 0) pa_nil)) pa_nil)))))))
      (pss_one (ps_ret (pe_callTy call_tuple_of (by rfl) T.b_tuple (by decide +kernel) (pa_cons (pv 3) pa_nil)))))), ?_⟩
    refine ⟨by show 0 ≤ sizeLine; omega, fun l nl => ?_⟩
    obtain ⟨x, b, hx⟩ := id hf
    have f_l : f ≠ l := ne_of_none hx nl
    refine ⟨_, rfl, many, rfl, by omega, by omega, for_range (lo := 0) (n := many.toNat) (fun i σ Hc => ∃ xs x4, σ = [some (.ref f), some (.int many), some (.int 0), some (.ref l), x4, none, none] ∧ Kp [f] H Hc ∧ FeedAt Hc f ∧ Hc l = some (.lst (xs.map V.str)) ∧ xs.length = i ∧ ∀ x ∈ xs, GoodLine x)
      ⟨[], none, rfl, Kp.new nl, hf.same (Same.new nl), upd_same, rfl, fun x hx => by cases hx⟩ ?_ ?_⟩
    · rintro i σ Hc hi ⟨xs, x4, rfl, kc, hfc, hlc, hn, hg⟩
      refine ⟨_, rfl, _, _, rfl, rfl, _, rfl, iteF (iteF ?_)⟩
      refine ⟨_, rfl, .inl ⟨rfl, _, SqL.of hlc⟩, _, rfl, f, rfl, hfc, fun y H2 gy k2 hf2 => ?_⟩
      have hl2 := k2.at hlc (by simpa using f_l.symm)
      refine ⟨l, _, _, rfl, rfl, hl2, by rw [List.length_map, sizeLine_eq]; omega, xs ++ [y], _, rfl, (kc.trans k2).put0 nl, ?_, ?_, by rw [List.length_append, hn]; rfl, ?_⟩
      · obtain ⟨x', b', e'⟩ := hf2
        exact ⟨x', b', (upd_ne f_l).trans e'⟩
      · rw [List.map_append]
        exact upd_same
      · intro z hz
        rcases List.mem_append.mp hz with hz | hz
        · exact hg z hz
        · rw [List.mem_singleton.mp hz]
          exact gy
    · rintro σ Hc ⟨xs, x4, rfl, kc, hfc, hlc, hn, hg⟩
      refine ⟨_, rfl, l, _, rfl, .inl ⟨SqL.of hlc, fun t nt => ?_⟩⟩
      exact q xs t _ ⟨by omega, hg⟩ (kc.trans (.new nt)) (hfc.same (Same.new nt)) upd_same
end
end Mw

/-! _law_items of lines and clashes. -/
namespace Mw
open PySem PySem.Spec PyProof.Rows L2
section
variable {P : Program} {w : World} {K : PySem.W.Frag} {mg : Str → Option Value} {base : Heap}
def spItems1 : Sp := fun vs H Q _ => ∃ (f : Addr) (many : Int), vs = [.ref f, .int many, .int 1] ∧ FeedAt H f ∧ 0 ≤ many ∧ many ≤ 2 ∧
  ∀ ks a H', GoodItems ks → Kp [f] H H' → FeedAt H' f → Dt H' (.tup ks) (.ref a) → Q (.ref a) H'
theorem Parts2.good {xs : List Str} (h : Parts2 xs) : GoodParts xs := ⟨by have := h.1; omega, h.2⟩
theorem Parts2.snoc {xs : List Str} (h : Parts2 xs) : GoodParts (xs ++ [("z" : Str)]) := by
  refine ⟨by rw [List.length_append]; have := h.1; show xs.length + 1 ≤ 3; omega, fun x hx => ?_⟩
  rcases List.mem_append.mp hx with hx | hx
  · exact h.2 x hx
  · rw [List.mem_singleton.mp hx]
    decide +kernel
theorem texts_inj : ∀ {xs ys : List Str}, xs.map NestedKey.text = ys.map NestedKey.text → xs = ys
  | [], [], _ => rfl
  | [], y :: ys, h => by cases h
  | x :: xs, [], h => by cases h
  | x :: xs, y :: ys, h => by
    rw [List.map_cons, List.map_cons] at h
    injection h with h1 h2
    injection h1 with h1
    rw [h1, texts_inj h2]
/-- the last statement of a clash's making -/
def tClashEnd : TS := fun D σ H => ∃ (l D3 a0 a1 a2 : Addr) (vs : List V), σ[3]? = some (some (.ref l)) ∧ σ[5]? = some (some (.ref D3)) ∧ H D3 = some (.lst [.ref a0, .ref a1, .ref a2]) ∧ H l = some (.lst vs) ∧ vs.length < 100 ∧
  ∀ t u, H t = none → (upd H t (.tup [.ref a1, .ref a2])) u = none → D.nx σ (upd (upd (upd H t (.tup [.ref a1, .ref a2])) u (.tup [.str "clash", .ref a0, .ref t])) l (.lst (vs ++ [.ref u])))
theorem clash_end {H Hc : Hp} {f l a0 a1 a2 t u : Addr} {vs : List V} {ks : List NestedKey} {p0 p q : List Str} (kc : Kp [f] H Hc) (nl : H l = none) (hf : FeedAt Hc f) (hl : Hc l = some (.lst vs)) (f_l : f ≠ l) (hd : DtAll Hc ks vs)
    (h0 : Hc a0 = some (.tup (p0.map V.str))) (h1 : Hc a1 = some (.tup (p.map V.str))) (h2 : Hc a2 = some (.tup (q.map V.str))) (nt : Hc t = none) (nu : (upd Hc t (.tup [.ref a1, .ref a2])) u = none) :
    Kp [f] H (upd (upd (upd Hc t (.tup [.ref a1, .ref a2])) u (.tup [.str "clash", .ref a0, .ref t])) l (.lst (vs ++ [.ref u]))) ∧
    FeedAt (upd (upd (upd Hc t (.tup [.ref a1, .ref a2])) u (.tup [.str "clash", .ref a0, .ref t])) l (.lst (vs ++ [.ref u]))) f ∧
    DtAll (upd (upd (upd Hc t (.tup [.ref a1, .ref a2])) u (.tup [.str "clash", .ref a0, .ref t])) l (.lst (vs ++ [.ref u]))) (ks ++ [clashK (flatK p0) (flatK p) (flatK q)]) (vs ++ [.ref u]) := by
  have s1 : Same Hc (upd Hc t (.tup [.ref a1, .ref a2])) := Same.new nt
  have s2 : Same (upd Hc t (.tup [.ref a1, .ref a2])) (upd (upd Hc t (.tup [.ref a1, .ref a2])) u (.tup [.str "clash", .ref a0, .ref t])) := Same.new nu
  have e1 : (upd (upd Hc t (.tup [.ref a1, .ref a2])) u (.tup [.str "clash", .ref a0, .ref t])) u = some (.tup [.str "clash", .ref a0, .ref t]) := upd_same
  have e0 := s2 _ _ (upd_same (H := Hc) (a := t) (o := .tup [.ref a1, .ref a2]))
  have s := s1.trans s2
  generalize upd (upd Hc t (.tup [.ref a1, .ref a2])) u (.tup [.str "clash", .ref a0, .ref t]) = H2 at s e1 e0
  have hl2 := s _ _ hl
  have k2 : Kp [l] H2 (upd H2 l (.lst (vs ++ [.ref u]))) := Kp.put hl2 (fun z => z) (by simp)
  refine ⟨(kc.trans (.same s)).put0 nl, ?_, ?_⟩
  · exact (hf.same s).kp k2 (by simpa using f_l)
  · refine ((hd.same s).kp k2).append (.cons1 (Dt.kp ?_ k2) .nil1)
    refine Dt.tup1 e1 (.cons1 rfl (.cons1 (Dt.tup1 (s _ _ h0) (.texts p0)) (.cons1 (Dt.tup1 e0 ?_) .nil1)))
    exact .cons1 (Dt.tup1 (s _ _ h1) (.texts p)) (.cons1 (Dt.tup1 (s _ _ h2) (.texts q)) .nil1)
/-- the last two statements: the parts in order, then the end -/
def tSecond : TS := fun D σ H => ∃ (D3 a0 a1 a2 : Addr) (p q : List Str), σ[5]? = some (some (.ref D3)) ∧ σ.set 5 (some (.ref D3)) = σ ∧ H D3 = some (.lst [.ref a0, .ref a1, .ref a2]) ∧ H a1 = some (.tup (p.map V.str)) ∧ H a2 = some (.tup (q.map V.str)) ∧ p ≠ q ∧ GoodParts p ∧ GoodParts q ∧
  ∀ H' D' b1 b2 pp qq, Same H H' → H' D' = some (.lst [.ref a0, .ref b1, .ref b2]) → H' b1 = some (.tup (pp.map V.str)) → H' b2 = some (.tup (qq.map V.str)) → GoodParts pp → GoodParts qq → Lt (wItems pp) (wItems qq) → tClashEnd D (σ.set 5 (some (.ref D'))) H'
theorem depth_texts (xs : List Str) : NestedKey.depthAll (xs.map .text) ≤ 16 := Nat.le_trans (depthAll_le (d := 0) fun k hk => by
  obtain ⟨x, _, rfl⟩ := List.mem_map.mp hk
  exact Nat.le_refl _) (by omega)
theorem ok_items1L (T : Tx K mg) : OkG P w K mg base CX0 4 "_law_items" ["_law_feed_here", "_law_many", "_law_deep"] spItems1 := by
  refine T.fLawItems.ok scLawItems (fun vs H Q E h => ?_) (fun cdv A outer s H vs Q E hr h => ?_)
  · obtain ⟨f, many, rfl, _⟩ := h
    rfl
  · obtain ⟨f, many, rfl, hf, m0, m2, q⟩ := h
    refine ⟨_, PSs.nox (pss_cons (ps_set (i := 3) scLawItems.nd rfl (Or.inl rfl) (pe_lst pa_nil))
      (pss_cons (ps_for PassesOwn.never rfl (pi_range1 (by rfl) T.b_range (pa_cons (pv 1) pa_nil)) (pg_name (i := 4) scLawItems.nd rfl (Or.inl rfl))
        (pss_one (ps_if (PW.pt (pw_and (pt_cmpR op_gt (pv 2) pe_int (nomark _)) (pw_and1 (pt_cmpR op_eq (pcall T.dLawTake (ok_take T) (hr.mono (by decide)) pass0 (pa_cons (pv 0) (pa_cons pe_int pa_nil))) pe_int (nomark _)))))
          (pss_cons (ps_setLc (i := 5) (own := [("_law_part", 6)]) (g := gName 6) (tt := tYes) rfl scLawItems.nd rfl rfl (sw_true rfl rfl rfl (by decide +kernel)) (pi_range1 (by rfl) T.b_range (pa_cons pe_int pa_nil)) (blkOk_by (N := nLawItems) (sc := defScope sLawItems) (by decide +kernel)) (fun _ _ _ _ _ => pg_name (i := 6) scLawItems.nd rfl (Or.inl rfl)) (fun _ _ _ _ _ => pts_nil)
              (fun _ _ _ _ _ => pcall T.dLawItems (ok_items0L T) hr pass0 (pa_cons (pv 0) (pa_cons (pcall T.dLawTake (ok_take T) (hr.mono (by decide)) pass0 (pa_cons (pv 0) (pa_cons pe_int pa_nil))) (pa_cons (pe_op op_sub (pv 2) pe_int) pa_nil)))))
          (pss_cons (ps_if (pt_cmpR (op_eqN hr.units) (pe_ix ix_list (pv 5) pe_int (fun _ _ => rfl)) (pe_ix ix_list (pv 5) pe_int (fun _ _ => rfl)) (nomark _))
              (pss_one (ps_asg (pe_op op_catA (pe_ix ix_list (pv 5) pe_int (fun _ _ => rfl)) (pe_tup (pa_cons pe_str pa_nil))) (pg_sub (pv 5) pe_int set_list))) pss_nil)
          (pss_imp (t' := tSecond) (pss_cons (ps_if (pt_cmpR op_lt_str (pcall T.dLawWritten (ok_written T) (hr.mono (by decide)) pass0 (pa_cons (pe_ix ix_list (pv 5) pe_int (fun _ _ => rfl)) pa_nil)) (pcall T.dLawWritten (ok_written T) (hr.mono (by decide)) pass0 (pa_cons (pe_ix ix_list (pv 5) pe_int (fun _ _ => rfl)) pa_nil)) (nomark _))
              (pss_one (ps_set (i := 5) scLawItems.nd rfl (Or.inl rfl) (pe_lst (pa_cons (pe_ix ix_list (pv 5) pe_int (fun _ _ => rfl)) (pa_cons (pe_ix ix_list (pv 5) pe_int (fun _ _ => rfl)) (pa_cons (pe_ix ix_list (pv 5) pe_int (fun _ _ => rfl)) pa_nil)))))) pss_nil)
          (pss_imp (t' := tClashEnd) (pss_one (ps_expr (pe_bm PySem.F.plainAttrs_list PySem.F.slot_list_append PySem.F.type_list_append mt_append (pv 3) (pa_cons
              (pe_tup (pa_cons pe_str (pa_cons (pe_ix ix_list (pv 5) pe_int (fun _ _ => rfl)) (pa_cons (pe_tup (pa_cons (pe_ix ix_list (pv 5) pe_int (fun _ _ => rfl)) (pa_cons (pe_ix ix_list (pv 5) pe_int (fun _ _ => rfl)) pa_nil))) pa_nil)))) pa_nil)))) ?_)) ?_)))
          (pss_one (ps_expr (pe_bm PySem.F.plainAttrs_list PySem.F.slot_list_append PySem.F.type_list_append mt_append (pv 3) (pa_cons (pcall T.dLawWords (ok_words T) (hr.mono (by decide)) pass0 (pa_cons (pv 0) pa_nil)) pa_nil)))))))
      (pss_one (ps_ret (pe_callTy call_tuple_of (by rfl) T.b_tuple (by decide +kernel) (pa_cons (pv 3) pa_nil)))))), ?_⟩
    · rintro D σ Hc ⟨l, D3, a0, a1, a2, vs, e3, e5, hD, hl, hn, k⟩
      refine ⟨_, e3, .inl ⟨rfl, _, SqL.of hl⟩, _, e5, _, _, _, _, rfl, rfl, SqL.of hD, atI_nat (j := 0) rfl, _, e5, _, _, _, _, rfl, rfl, SqL.of hD, atI_nat (j := 1) rfl, _, e5, _, _, _, _, rfl, rfl, SqL.of hD, atI_nat (j := 2) rfl, by show 2 ≤ sizeLine; decide, fun t nt => ?_⟩
      refine ⟨by show 3 ≤ sizeLine; decide, fun u nu => ⟨l, vs, _, rfl, rfl, (Same.new nu) _ _ ((Same.new nt) _ _ hl), by rw [sizeLine_eq]; omega, k t u nt nu⟩⟩
    · rintro D σ Hc ⟨D3, a0, a1, a2, p, q, e5, es, hD, h1, h2, ne, gp, gq, k⟩
      have lenp : p.length ≤ 100 := by have := gp.1; omega
      have lenq : q.length ≤ 100 := by have := gq.1; omega
      refine ⟨_, e5, _, _, _, _, rfl, rfl, SqL.of hD, atI_nat (j := 2) rfl, a2, q, rfl, h2, lenq, fun x hx => (gq.2 x hx).1, fun H1 s1 => ?_⟩
      refine ⟨_, e5, _, _, _, _, rfl, rfl, SqL.of (s1 _ _ hD), atI_nat (j := 1) rfl, a1, p, rfl, s1 _ _ h1, lenp, fun x hx => (gp.2 x hx).1, fun H2 s2 => ?_⟩
      have s12 := s1.trans s2
      refine ⟨_, _, rfl, rfl, _, rfl, ite2 (fun lt => ?_) (fun lt => ?_)⟩
      · have lt : Lt (wItems q) (wItems p) := of_decide_eq_true (p := (wItems q).cps.toList < (wItems p).cps.toList) lt
        have hD2 := s12 _ _ hD
        refine ⟨_, e5, _, _, _, _, rfl, rfl, SqL.of hD2, atI_nat (j := 0) rfl, _, e5, _, _, _, _, rfl, rfl, SqL.of hD2, atI_nat (j := 2) rfl, _, e5, _, _, _, _, rfl, rfl, SqL.of hD2, atI_nat (j := 1) rfl, by show 3 ≤ sizeLine; decide, fun D' nD' => ?_⟩
        have s3 := s12.trans (Same.new (o := .lst [.ref a0, .ref a2, .ref a1]) nD')
        exact k _ D' a2 a1 q p s3 upd_same (s3 _ _ h2) (s3 _ _ h1) gq gp lt
      · have nlt : ¬ Lt (wItems q) (wItems p) := fun z => lt (decide_eq_true (p := (wItems q).cps.toList < (wItems p).cps.toList) z)
        have lt2 : Lt (wItems p) (wItems q) := lt_of_not nlt fun z => ne (wItems_inj (fun x hx => (gp.2 x hx).1) (fun x hx => (gq.2 x hx).1) z)
        have := k H2 D3 a1 a2 p q s12 (s12 _ _ hD) (s12 _ _ h1) (s12 _ _ h2) gp gq lt2
        rw [es] at this
        exact this
    · refine ⟨by show 0 ≤ sizeLine; omega, fun l nl => ?_⟩
      obtain ⟨x, b, hx⟩ := id hf
      have f_l : f ≠ l := ne_of_none hx nl
      refine ⟨_, rfl, many, rfl, by omega, by omega, for_range (lo := 0) (n := many.toNat) (fun i σ Hc => ∃ ks vs x4 x5, σ = [some (.ref f), some (.int many), some (.int 1), some (.ref l), x4, x5, none] ∧ Kp [f] H Hc ∧ FeedAt Hc f ∧ Hc l = some (.lst vs) ∧ DtAll Hc ks vs ∧ ks.length = i ∧ ∀ k ∈ ks, GoodItem k)
        ⟨[], [], none, none, rfl, Kp.new nl, hf.same (Same.new nl), upd_same, .nil1, rfl, fun x hx => by cases hx⟩ ?_ ?_⟩
      · rintro i σ Hc hi ⟨ks, vs, x4, x5, rfl, kc, hfc, hlc, hd, hn, hg⟩
        have hvl : vs.length = ks.length := hd.length
        obtain ⟨x1, b1, hf1⟩ := id hfc
        refine ⟨_, rfl, _, _, rfl, rfl, _, rfl, iteT ⟨_, rfl, f, x1, b1, 8, rfl, hf1, by omega, by omega, fun r y r0 r1 => ⟨rfl, _, rfl, ?_⟩⟩⟩
        have k1 : Kp [f] Hc (upd Hc f (.lst [.int y, .bl b1])) := FeedAt.put hf1
        have hf2 : FeedAt (upd Hc f (.lst [.int y, .bl b1])) f := ⟨y, b1, upd_same⟩
        generalize upd Hc f (.lst [.int y, .bl b1]) = H1 at k1 hf2
        have hl1 := k1.at hlc (by simpa using f_l.symm)
        have hd1 := hd.kp k1
        have kc1 := kc.trans k1
        refine ite2 (fun _ => ?_) (fun _ => ?_)
        · refine ⟨3, rfl, by decide, by decide, fun D nD => lc_wk (S := [f]) Wk.range (fun j acc Hj => Kp [f] H1 Hj ∧ FeedAt Hj f ∧ ∃ pa : List (List Str × Addr), acc = pa.map (fun p => V.ref p.2) ∧ pa.length = j ∧ ∀ p ∈ pa, Parts2 p.1 ∧ Hj p.2 = some (.tup (p.1.map V.str)))
            ⟨.new nD, hf2.same (Same.new nD), [], rfl, rfl, fun p hp => by cases hp⟩ (fun j acc Hj h => h.1) ?_ ?_⟩
          · rintro j v acc Hj Hj' hj hla hDj ⟨kj, hfj, pa, ea, hpl, hpa⟩ sj rfl
            obtain ⟨x2, b2, hf3⟩ := hfj.same sj
            have f_D : f ≠ D := by
              intro z
              rw [← z] at nD
              obtain ⟨_, _, e⟩ := hf2
              rw [nD] at e
              cases e
            have k4 : Kp [f] Hj' (upd Hj' f (.lst [.int x2, .bl b2])) := FeedAt.put hf3
            refine ⟨rfl, _, rfl, _, rfl, f, x2, b2, 3, rfl, hf3, by omega, by omega, fun r2 y2 r20 r21 => ?_⟩
            have k4 : Kp [f] Hj' (upd Hj' f (.lst [.int y2, .bl b2])) := FeedAt.put hf3
            have hf4 : FeedAt (upd Hj' f (.lst [.int y2, .bl b2])) f := ⟨y2, b2, upd_same⟩
            refine ⟨_, rfl, _, _, rfl, rfl, f, r2, rfl, hf4, r20, by omega, fun xs a H5 hp5 k5 hf5 ha5 => ?_⟩
            have kk : Kp [f] Hj H5 := ((Kp.same sj).trans k4).trans k5
            have hD5 : H5 D = some (.lst acc) := kk.at hDj (by simpa using f_D.symm)
            have hal : acc.length < sizeLine := by rw [sizeLine_eq]; omega
            have k6 : Kp [D] H5 (upd H5 D (.lst (acc ++ [.ref a]))) := Kp.put hD5 (fun z => z) (by simp)
            refine ⟨acc, hD5, hal, acc ++ [.ref a], by rw [List.length_append]; show acc.length + 1 ≤ j + 1; omega, upd_same, Kp.put0 (kj.trans kk) nD, hf5.kp k6 (by simpa using f_D), pa ++ [(xs, a)], by rw [ea, List.map_append]; rfl, by rw [List.length_append, hpl]; rfl, ?_⟩
            intro p hp
            rcases List.mem_append.mp hp with hp | hp
            · obtain ⟨q1, q2⟩ := hpa p hp
              exact ⟨q1, k6.tup (kk.tup q2)⟩
            · rw [List.mem_singleton.mp hp]
              exact ⟨hp5, k6.tup ha5⟩
          · rintro acc H2 ⟨k2, hf3, pa, rfl, hpl, hpa⟩ hD2
            obtain ⟨q0, q1, q2, rfl⟩ : ∃ q0 q1 q2, pa = [q0, q1, q2] := by
              match pa, hpl with
              | [a, b, c], _ => exact ⟨a, b, c, rfl⟩
            obtain ⟨g0, h0⟩ := hpa q0 (by simp)
            obtain ⟨g1, h1⟩ := hpa q1 (by simp)
            obtain ⟨g2, h2⟩ := hpa q2 (by simp)
            have kc2 := kc1.trans k2
            have hl2 := k2.at hl1 (by simpa using f_l.symm)
            have hd2 := hd1.kp k2
            have nDH : H D = none := kc1.none nD (by
              intro z
              rw [List.mem_singleton.mp z] at nD
              obtain ⟨_, _, e⟩ := hf2
              rw [nD] at e
              cases e)
            have l_D : l ≠ D := ne_of_none hl1 nD
            -- the end of the turn, for two parts in order
            have fin : ∀ (H3 : Hp) (D3 a0 a1 a2 : Addr) (x4 : Option V) (p0 p q : List Str), Kp [f] H H3 → FeedAt H3 f → H3 l = some (.lst vs) → DtAll H3 ks vs → H3 a0 = some (.tup (p0.map V.str)) → H3 a1 = some (.tup (p.map V.str)) → H3 a2 = some (.tup (q.map V.str)) →
                GoodParts p0 → GoodParts p → GoodParts q → Lt (wItems p) (wItems q) → ∀ t u, H3 t = none → (upd H3 t (.tup [.ref a1, .ref a2])) u = none →
                (fun σ Hc => ∃ ks vs x4 x5, σ = [some (.ref f), some (.int many), some (.int 1), some (.ref l), x4, x5, none] ∧ Kp [f] H Hc ∧ FeedAt Hc f ∧ Hc l = some (.lst vs) ∧ DtAll Hc ks vs ∧ ks.length = i + 1 ∧ ∀ k ∈ ks, GoodItem k)
                  [some (.ref f), some (.int many), some (.int 1), some (.ref l), x4, some (.ref D3), none] (upd (upd (upd H3 t (.tup [.ref a1, .ref a2])) u (.tup [.str "clash", .ref a0, .ref t])) l (.lst (vs ++ [.ref u]))) := by
              intro H3 D3 a0 a1 a2 x4 p0 p q k3 hf3 hl3 hd3 e0 e1 e2 gp0 gp gq lt t u nt nu
              obtain ⟨c1, c2, c3⟩ := clash_end k3 nl hf3 hl3 f_l hd3 e0 e1 e2 nt nu
              refine ⟨_, _, _, _, rfl, c1, c2, upd_same, c3, by rw [List.length_append, hn]; rfl, ?_⟩
              intro k hk
              rcases List.mem_append.mp hk with hk | hk
              · exact hg k hk
              · rw [List.mem_singleton.mp hk]
                exact .inr ⟨p0, p, q, rfl, gp0, gp, gq, lt⟩
            refine ⟨_, rfl, _, _, _, _, rfl, rfl, SqL.of hD2, atI_nat (j := 1) rfl, _, rfl, _, _, _, _, rfl, rfl, SqL.of hD2, atI_nat (j := 2) rfl, q1.1.map .text, q2.1.map .text, Dt.tup1 h1 (.texts _), Dt.tup1 h2 (.texts _), depth_texts _, _, rfl, ?_⟩
            have hvl100 : vs.length < 100 := by omega
            refine ite2 (fun e => ?_) (fun e => ?_)
            · have e : q1.1 = q2.1 := texts_inj (of_decide_eq_true e)
              refine ⟨_, rfl, _, _, _, _, rfl, rfl, SqL.of hD2, atI_nat (j := 1) rfl, by show 1 ≤ sizeLine; decide, fun tz ntz => ?_⟩
              have s3 : Same H2 (upd H2 tz (.tup [.str "z"])) := Same.new ntz
              have htz : (upd H2 tz (.tup [.str "z"])) tz = some (.tup [.str "z"]) := upd_same
              generalize upd H2 tz (.tup [.str "z"]) = H3 at s3 htz
              -- the three with a2 for its last
              have go : ∀ (H4 : Hp) (a2 : Addr), Same H3 H4 → H4 a2 = some (.tup ((q1.1 ++ [("z" : Str)]).map V.str)) → tSecond { nx := fun σ Hc => ∃ ks vs x4 x5, σ = [some (.ref f), some (.int many), some (.int 1), some (.ref l), x4, x5, none] ∧ Kp [f] H Hc ∧ FeedAt Hc f ∧ Hc l = some (.lst vs) ∧ DtAll Hc ks vs ∧ ks.length = i + 1 ∧ ∀ k ∈ ks, GoodItem k, rt := fun _ _ => False, bk := fun _ _ => False, ct := fun _ _ => False }
                  [some (.ref f), some (.int many), some (.int 1), some (.ref l), some (.int (0 + (i : Int))), some (.ref D), none] (upd H4 D (.lst [.ref q0.2, .ref q1.2, .ref a2])) := by
                intro H4 a2 s4 ha2
                have s24 := s3.trans s4
                have hD4 := s24 _ _ hD2
                have k5 : Kp [D] H4 (upd H4 D (.lst [.ref q0.2, .ref q1.2, .ref a2])) := Kp.put hD4 (fun z => z) (by simp)
                refine ⟨D, q0.2, q1.2, a2, q1.1, q1.1 ++ [("z" : Str)], rfl, rfl, upd_same, k5.tup (s24 _ _ h1), k5.tup ha2, fun z => ?_, g1.good, g1.snoc, fun H' D' b1 b2 pp qq s' hD' hb1 hb2 gp gq lt => ?_⟩
                · have := congrArg List.length z
                  rw [List.length_append] at this
                  simp at this
                · have k25 : Kp [D] H2 (upd H4 D (.lst [.ref q0.2, .ref q1.2, .ref a2])) := (Kp.same s24).trans k5
                  have kH : Kp [f] H (upd H4 D (.lst [.ref q0.2, .ref q1.2, .ref a2])) := Kp.put0 (kc2.trans (.same s24)) nDH
                  have f_D : f ≠ D := by
                    intro z
                    rw [← z] at nD
                    obtain ⟨_, _, e⟩ := hf2
                    rw [nD] at e
                    cases e
                  have hl5 := s' _ _ (k25.at hl2 (by simpa using l_D))
                  refine ⟨l, D', q0.2, b1, b2, vs, rfl, rfl, hD', hl5, hvl100, fun t u nt nu => ?_⟩
                  exact fin H' D' q0.2 b1 b2 _ q0.1 pp qq (kH.trans (.same s')) ((hf3.kp k25 (by simpa using f_D)).same s') hl5 ((hd2.kp k25).same s') (s' _ _ (k25.tup h0)) hb1 hb2 g0.good gp gq lt t u nt nu
              have hz : (q1.1.map V.str).length + [V.str "z"].length ≤ sizeLine := by
                rw [List.length_map, sizeLine_eq]
                show q1.1.length + 1 ≤ _
                have := g1.1
                omega
              refine ⟨q1.2, tz, _, _, rfl, rfl, SqT.of (s3 _ _ h1), SqT.of htz, hz, fun e0 => ?_, fun _ e1 => (by cases e1), fun _ _ pc npc => ?_⟩
              · have e1 : q1.1 = [] := by
                  cases hq : q1.1 with
                  | nil => rfl
                  | cons a r =>
                    rw [hq] at e0
                    cases e0
                exact ⟨_, rfl, D, _, _, 2, rfl, rfl, s3 _ _ hD2, rfl, go H3 tz (Same.refl _) (by rw [e1]; exact htz)⟩
              · refine ⟨_, rfl, D, _, _, 2, rfl, rfl, (Same.new npc) _ _ (s3 _ _ hD2), rfl, go _ pc (Same.new npc) (by rw [List.map_append]; exact upd_same)⟩
            · have e : q1.1 ≠ q2.1 := fun z => e (decide_eq_true (by rw [z]))
              refine ⟨D, q0.2, q1.2, q2.2, q1.1, q2.1, rfl, rfl, hD2, h1, h2, e, g1.good, g2.good, fun H' D' b1 b2 pp qq s' hD' hb1 hb2 gp gq lt => ?_⟩
              have hl3 := s' _ _ hl2
              refine ⟨l, D', q0.2, b1, b2, vs, rfl, rfl, hD', hl3, hvl100, fun t u nt nu => ?_⟩
              exact fin H' D' q0.2 b1 b2 _ q0.1 pp qq (kc2.trans (.same s')) (hf3.same s') hl3 (hd2.same s') (s' _ _ h0) hb1 hb2 g0.good gp gq lt t u nt nu
        · refine ⟨_, rfl, .inl ⟨rfl, _, SqL.of hl1⟩, _, rfl, f, rfl, hf2, fun y H2 gy k2 hf3 => ?_⟩
          have hl2 := k2.at hl1 (by simpa using f_l.symm)
          have k3 : Kp [l] H2 (upd H2 l (.lst (vs ++ [.str y]))) := Kp.put hl2 (fun z => z) (by simp)
          refine ⟨l, _, _, rfl, rfl, hl2, by rw [sizeLine_eq]; omega, ks ++ [.text y], _, _, _, rfl, (kc1.trans k2).put0 nl, hf3.kp k3 (by simpa using f_l), upd_same, ((hd1.kp k2).kp k3).append (.cons1 (d := .text y) rfl .nil1), by rw [List.length_append, hn]; rfl, ?_⟩
          intro k hk
          rcases List.mem_append.mp hk with hk | hk
          · exact hg k hk
          · rw [List.mem_singleton.mp hk]
            exact .inl ⟨y, rfl, gy⟩
      · rintro σ Hc ⟨ks, vs, x4, x5, rfl, kc, hfc, hlc, hd, hn, hg⟩
        refine ⟨_, rfl, l, _, rfl, .inl ⟨SqL.of hlc, fun t nt => ?_⟩⟩
        exact q ks t _ ⟨by omega, hg⟩ (kc.trans (.new nt)) (hfc.same (Same.new nt)) (Dt.tup1 upd_same (hd.same (Same.new nt)))
end
end Mw

/-! _law_where, _law_stand. -/
namespace Mw
open PySem PySem.Spec PyProof.Rows L2
def pathV : List V := pathsL.map V.str
def base3V : List V := [.non, .str "a", .str "c"]
theorem base3_at : ∀ n : Nat, n < 3 → ∃ k v, base3V[n]? = some v ∧ GoodPlace k ∧ ∀ H : Hp, Dt H k v
  | 0, _ => ⟨.none, .non, rfl, .inl rfl, fun _ => rfl⟩
  | 1, _ => ⟨.text "a", .str "a", rfl, .inr ⟨_, rfl, by decide +kernel⟩, fun _ => rfl⟩
  | 2, _ => ⟨.text "c", .str "c", rfl, .inr ⟨_, rfl, by decide +kernel⟩, fun _ => rfl⟩
def lt3 (p q : NestedKey) : Prop := (wWhere p).cps.toList < (wWhere q).cps.toList
theorem pair3_at (t1 t2 t3 : Addr) (H : Hp) (h1 : H t1 = some (.tup [.non, .str "a"])) (h2 : H t2 = some (.tup [.str "a", .str "c"])) (h3 : H t3 = some (.tup [.non, .str "ab"])) : ∀ n : Nat, n < 3 → ∃ p q t, [V.ref t1, V.ref t2, V.ref t3][n]? = some (.ref t) ∧ GoodPlace p ∧ GoodPlace q ∧ Lt (wWhere p) (wWhere q) ∧ Dt H (.tup [p, q]) (.ref t)
  | 0, _ => ⟨.none, .text "a", t1, rfl, .inl rfl, .inr ⟨_, rfl, by decide +kernel⟩, by unfold Lt; decide +kernel, Dt.tup1 h1 (.cons1 rfl (.cons1 rfl .nil1))⟩
  | 1, _ => ⟨.text "a", .text "c", t2, rfl, .inr ⟨_, rfl, by decide +kernel⟩, .inr ⟨_, rfl, by decide +kernel⟩, by unfold Lt; decide +kernel, Dt.tup1 h2 (.cons1 rfl (.cons1 rfl .nil1))⟩
  | 2, _ => ⟨.none, .text "ab", t3, rfl, .inl rfl, .inr ⟨_, rfl, by decide +kernel⟩, by unfold Lt; decide +kernel, Dt.tup1 h3 (.cons1 rfl (.cons1 rfl .nil1))⟩
section
variable {P : Program} {w : World} {K : PySem.W.Frag} {mg : Str → Option Value} {base : Heap}
def spWhere : Sp := fun vs H Q _ => ∃ f : Addr, vs = [.ref f] ∧ FeedAt H f ∧ ∀ k v H', GoodWhere k → Dt H' k v → Kp [f] H H' → FeedAt H' f → Q v H'
theorem ok_where (T : Tx K mg) : OkG P w K mg base CX0 2 "_law_where" ["_law_feed_here"] spWhere := by
  refine T.fLawWhere.ok scLawWhere (fun vs H Q E h => ?_) (fun cdv A outer s H vs Q E hr h => ?_)
  · obtain ⟨f, rfl, _⟩ := h
    rfl
  · obtain ⟨f, rfl, ⟨x, b, hf⟩, q⟩ := h
    refine ⟨_, PSs.nox (pss_cons (ps_set (i := 1) scLawWhere.nd rfl (Or.inl rfl) (pe_lst (pa_cons pe_str (pa_cons pe_str (pa_cons pe_str (pa_cons pe_str (pa_cons pe_str pa_nil)))))))
      (pss_cons (ps_if (pt_cmpR op_lt (pcall T.dLawTake (ok_take T) hr pass0 (pa_cons (pv 0) (pa_cons pe_int pa_nil))) pe_int (nomark _)) (pss_one (ps_ret (pe_ix ix_list (pv 1) (pcall T.dLawTake (ok_take T) hr pass0 (pa_cons (pv 0) (pa_cons pe_int pa_nil))) (fun _ _ => rfl)))) pss_nil)
      (pss_cons (ps_set (i := 2) scLawWhere.nd rfl (Or.inl rfl) (pe_ix ix_list (pe_lst (pa_cons pe_non (pa_cons pe_str (pa_cons pe_str pa_nil)))) (pcall T.dLawTake (ok_take T) hr pass0 (pa_cons (pv 0) (pa_cons pe_int pa_nil))) (fun _ _ => rfl)))
      (pss_one (ps_ret (pe_tup (pa_cons pe_str (pa_cons (pv 2) (pa_cons (pe_ix ix_list (pe_lst (pa_cons (pe_tup (pa_cons pe_non (pa_cons pe_str pa_nil))) (pa_cons (pe_tup (pa_cons pe_str (pa_cons pe_str pa_nil))) (pa_cons (pe_tup (pa_cons pe_non (pa_cons pe_str pa_nil))) pa_nil)))) (pcall T.dLawTake (ok_take T) hr pass0 (pa_cons (pv 0) (pa_cons pe_int pa_nil))) (fun _ _ => rfl)) pa_nil))))))))), ?_⟩
    refine ⟨by show 5 ≤ sizeLine; decide, fun l nl => ?_⟩
    have s1 : Same H (upd H l (.lst pathV)) := Same.new nl
    have hl1 : (upd H l (.lst pathV)) l = some (.lst pathV) := upd_same
    have f_l : f ≠ l := ne_of_none hf nl
    show (tSeq _ _) _ _ (upd H l (.lst pathV))
    generalize upd H l (.lst pathV) = H1 at s1 hl1
    refine ⟨_, rfl, f, x, b, 8, rfl, s1 _ _ hf, by omega, by omega, fun r y r0 r1 => ?_⟩
    have k2 : Kp [f] H (upd H1 f (.lst [.int y, .bl b])) := (Kp.same s1).trans (FeedAt.put (s1 _ _ hf))
    have hf2 : (upd H1 f (.lst [.int y, .bl b])) f = some (.lst [.int y, .bl b]) := upd_same
    have hl2 : (upd H1 f (.lst [.int y, .bl b])) l = some (.lst pathV) := (upd_ne f_l.symm).trans hl1
    generalize upd H1 f (.lst [.int y, .bl b]) = H2 at k2 hf2 hl2
    refine ⟨_, _, rfl, rfl, _, rfl, ite2 (fun _ => ?_) (fun _ => ?_)⟩
    · refine ⟨_, rfl, _, rfl, f, y, b, 5, rfl, hf2, by omega, by omega, fun r2 y2 r20 r21 => ?_⟩
      obtain ⟨n, rfl, hn⟩ := int_nat (n := 5) r20 r21
      have hk : pathsL[n]? = some (pathsL[n]'hn) := List.getElem?_eq_getElem hn
      refine ⟨l, pathV, _, .str (pathsL[n]'hn), rfl, rfl, SqL.of ((upd_ne f_l.symm).trans hl2), atI_nat (j := n) (by unfold pathV; rw [List.getElem?_map, hk]; rfl), ?_⟩
      exact q (.text (pathsL[n]'hn)) _ _ (.inl ⟨_, rfl, List.getElem_mem hn⟩) rfl (k2.trans (FeedAt.put hf2)) ⟨y2, b, upd_same⟩
    · refine ⟨by show 3 ≤ sizeLine; decide, fun l2 nl2 => ?_⟩
      have s3 : Same H2 (upd H2 l2 (.lst (base3V))) := Same.new nl2
      have hl3 : (upd H2 l2 (.lst (base3V))) l2 = some (.lst (base3V)) := upd_same
      have f_l2 : f ≠ l2 := ne_of_none hf2 nl2
      refine ⟨_, rfl, f, y, b, 3, rfl, s3 _ _ hf2, by omega, by omega, fun r2 y2 r20 r21 => ?_⟩
      obtain ⟨n, rfl, hn⟩ := int_nat (n := 3) r20 r21
      obtain ⟨kb, vb, hvb, gb, db⟩ := base3_at n hn
      refine ⟨l2, base3V, _, vb, rfl, rfl, SqL.of ((upd_ne f_l2.symm).trans hl3), atI_nat (j := n) hvb, ?_⟩
      let H4 : Hp := upd (upd H2 l2 (.lst base3V)) f (.lst [.int y2, .bl b])
      have k4 : Kp [f] H H4 := (k2.trans (.same s3)).trans (FeedAt.put (s3 _ _ hf2))
      have hf4 : H4 f = some (.lst [.int y2, .bl b]) := upd_same
      refine ⟨_, rfl, by show 2 ≤ sizeLine; decide, fun t1 nt1 => ⟨by show 2 ≤ sizeLine; decide, fun t2 nt2 => ⟨by show 2 ≤ sizeLine; decide, fun t3 nt3 => ⟨by show 3 ≤ sizeLine; decide, fun l5 nl5 => ?_⟩⟩⟩⟩
      have s5 : Same H4 (upd H4 t1 (.tup [.non, .str "a"])) := Same.new nt1
      have s6 : Same (upd H4 t1 (.tup [.non, .str "a"])) (upd (upd H4 t1 (.tup [.non, .str "a"])) t2 (.tup [.str "a", .str "c"])) := Same.new nt2
      have s7 : Same (upd (upd H4 t1 (.tup [.non, .str "a"])) t2 (.tup [.str "a", .str "c"])) (upd (upd (upd H4 t1 (.tup [.non, .str "a"])) t2 (.tup [.str "a", .str "c"])) t3 (.tup [.non, .str "ab"])) := Same.new nt3
      let H8 : Hp := upd (upd (upd (upd H4 t1 (.tup [.non, .str "a"])) t2 (.tup [.str "a", .str "c"])) t3 (.tup [.non, .str "ab"])) l5 (.lst [.ref t1, .ref t2, .ref t3])
      have s8 : Same (upd (upd (upd H4 t1 (.tup [.non, .str "a"])) t2 (.tup [.str "a", .str "c"])) t3 (.tup [.non, .str "ab"])) H8 := Same.new nl5
      have e1 := s8 _ _ (s7 _ _ (s6 _ _ (upd_same (H := H4) (a := t1) (o := .tup [.non, .str "a"]))))
      have e2 := s8 _ _ (s7 _ _ (upd_same (H := upd H4 t1 (.tup [.non, .str "a"])) (a := t2) (o := .tup [.str "a", .str "c"])))
      have e3 := s8 _ _ (upd_same (H := upd (upd H4 t1 (.tup [.non, .str "a"])) t2 (.tup [.str "a", .str "c"])) (a := t3) (o := .tup [.non, .str "ab"]))
      have e5 : H8 l5 = some (.lst [.ref t1, .ref t2, .ref t3]) := upd_same
      have s48 := ((s5.trans s6).trans s7).trans s8
      have hf8 := s48 _ _ hf4
      have f_l5 : f ≠ l5 := ne_of_none (((s5.trans s6).trans s7) _ _ hf4) nl5
      refine ⟨_, rfl, f, y2, b, 3, rfl, hf8, by omega, by omega, fun r3 y3 r30 r31 => ?_⟩
      obtain ⟨m, rfl, hm⟩ := int_nat (n := 3) r30 r31
      have k9 : Kp [f] H8 (upd H8 f (.lst [.int y3, .bl b])) := FeedAt.put hf8
      obtain ⟨p, qq, t, ht, gp, gq, lt, dt⟩ := pair3_at t1 t2 t3 _ (k9.tup e1) (k9.tup e2) (k9.tup e3) m hm
      refine ⟨l5, _, _, .ref t, rfl, rfl, SqL.of ((upd_ne f_l5.symm).trans e5), atI_nat (j := m) ht, by show 3 ≤ sizeLine; decide, fun u nu => ?_⟩
      refine q (clashK kb p qq) _ _ (.inr ⟨kb, p, qq, rfl, gb, gp, gq, lt⟩) (Dt.tup1 upd_same (.cons1 rfl (.cons1 (db _) (.cons1 (dt.same (Same.new nu)) .nil1)))) (((k4.trans (.same s48)).trans k9).trans (.new nu)) ⟨y3, b, (Same.new nu) _ _ upd_same⟩
end
end Mw

/-! _law_stand. -/
namespace Mw
open PySem PySem.Spec PyProof.Rows L2
section
variable {P : Program} {w : World} {K : PySem.W.Frag} {mg : Str → Option Value} {base : Heap}
def spStand : Sp := fun vs H Q _ => ∃ f : Addr, vs = [.ref f] ∧ FeedAt H f ∧ ∀ k a H', GoodStand k → Dt H' k (.ref a) → Kp [f] H H' → FeedAt H' f → Q (.ref a) H'
theorem roots_len : rootsL.length = 12 := rfl
theorem ok_stand_law (T : Tx K mg) : OkG P w K mg base CX0 5 "_law_stand" ["_law_feed_here"] spStand := by
  refine T.fLawStand.ok scLawStand (fun vs H Q E h => ?_) (fun cdv A outer s H vs Q E hr h => ?_)
  · obtain ⟨f, rfl, _⟩ := h
    rfl
  · obtain ⟨f, rfl, ⟨x, b, hf⟩, q⟩ := h
    refine ⟨_, PSs.nox (pss_cons (ps_set (i := 1) scLawStand.nd rfl (Or.inl rfl) (pe_lst pa_nil))
      (pss_cons (ps_set (i := 2) scLawStand.nd rfl (Or.inl rfl) (pe_ix ix_list (pe_lst (pa_cons pe_int (pa_cons pe_int pa_nil))) (pe_callTy call_int1 (by rfl) T.b_int (by decide +kernel) (pa_cons (pe_cmpR op_eq (pcall T.dLawTake (ok_take T) (hr.mono (by decide)) pass0 (pa_cons (pv 0) (pa_cons pe_int pa_nil))) pe_int (nomark _)) pa_nil)) (fun _ _ => rfl)))
      (pss_cons (ps_for PassesOwn.never rfl (pi_list (pe_lst (pa_cons pe_str (pa_cons pe_str (pa_cons pe_str (pa_cons pe_str (pa_cons pe_str (pa_cons pe_str (pa_cons pe_str (pa_cons pe_str (pa_cons pe_str (pa_cons pe_str (pa_cons pe_str (pa_cons pe_str pa_nil)))))))))))))) (pg_name (i := 3) scLawStand.nd rfl (Or.inl rfl))
        (pss_one (ps_if (PW.pt (pw_and (pt_cmpR op_lt (pe_callB call_len_seq (by rfl) T.b_len PySem.boot_len (pa_cons (pv 1) pa_nil)) (pv 2) (nomark _)) (pw_and1 (pt_cmpR op_eq (pcall T.dLawTake (ok_take T) (hr.mono (by decide)) pass0 (pa_cons (pv 0) (pa_cons pe_int pa_nil))) pe_int (nomark _)))))
          (pss_one (ps_expr (pe_bm PySem.F.plainAttrs_list PySem.F.slot_list_append PySem.F.type_list_append mt_append (pv 1) (pa_cons (pe_tup (pa_cons (pv 3) (pa_cons (pcall T.dLawWhere (ok_where T) (hr.mono (by decide)) pass0 (pa_cons (pv 0) pa_nil))
            (pa_cons (pcall T.dLawItems (ok_items1L T) hr pass0 (pa_cons (pv 0) (pa_cons (pcall T.dLawTake (ok_take T) (hr.mono (by decide)) pass0 (pa_cons (pv 0) (pa_cons pe_int pa_nil))) (pa_cons pe_int pa_nil)))) pa_nil)))) pa_nil)))) pss_nil)))
      (pss_one (ps_ret (pe_callTy call_tuple_of (by rfl) T.b_tuple (by decide +kernel) (pa_cons (pv 1) pa_nil))))))), ?_⟩
    refine ⟨by show 0 ≤ sizeLine; omega, fun l nl => ?_⟩
    have f_l : f ≠ l := ne_of_none hf nl
    let H1 : Hp := upd H l (.lst [])
    have s1 : Same H H1 := Same.new nl
    have hl1 : H1 l = some (.lst []) := upd_same
    refine ⟨by show 2 ≤ sizeLine; decide, fun l2 nl2 => ?_⟩
    let H2 : Hp := upd H1 l2 (.lst [.int 3, .int 12])
    have s2 : Same H1 H2 := Same.new nl2
    have hl2 : H2 l2 = some (.lst [.int 3, .int 12]) := upd_same
    have hf2 := s2 _ _ (s1 _ _ hf)
    have f_l2 : f ≠ l2 := ne_of_none (s1 _ _ hf) nl2
    refine ⟨_, rfl, f, x, b, 16, rfl, hf2, by omega, by omega, fun r y r0 r1 => ?_⟩
    let H3 : Hp := upd H2 f (.lst [.int y, .bl b])
    have k3 : Kp [f] H H3 := (Kp.same (s1.trans s2)).trans (FeedAt.put hf2)
    have hf3 : H3 f = some (.lst [.int y, .bl b]) := upd_same
    have hl3 : H3 l = some (.lst []) := (upd_ne f_l.symm).trans (s2 _ _ hl1)
    have hl23 : H3 l2 = some (.lst [.int 3, .int 12]) := (upd_ne f_l2.symm).trans hl2
    refine ⟨rfl, .inr ⟨_, rfl, ?_⟩⟩
    obtain ⟨most, hm, hm1⟩ : ∃ most : Int, atI [V.int 3, V.int 12] (if decide (V.int r = V.int 5) = true then 1 else 0) = some (.int most) ∧ most ≤ 12 := by
      by_cases z : V.int r = V.int 5
      · rw [decide_eq_true z]
        exact ⟨12, atI_nat (j := 1) rfl, by omega⟩
      · rw [decide_eq_false z]
        exact ⟨3, atI_nat (j := 0) rfl, by omega⟩
    refine ⟨l2, _, _, .int most, rfl, rfl, SqL.of hl23, hm, ?_⟩
    refine ⟨by show 12 ≤ sizeLine; decide, fun lr nlr => ?_⟩
    let H4 : Hp := upd H3 lr (.lst (rootsL.map V.str))
    have s4 : Same H3 H4 := Same.new nlr
    have hlr : H4 lr = some (.lst (rootsL.map V.str)) := upd_same
    have lr_l : lr ≠ l := (ne_of_none hl3 nlr).symm
    have lr_f : lr ≠ f := (ne_of_none hf3 nlr).symm
    have lift : ∀ {Hc : Hp}, Kp [l, f] H4 Hc → Kp [f] H Hc := fun k => Kp.off_trans (S := [f]) (k3.trans (.same s4)) nl k
    refine ⟨lr, rfl, ⟨_, SqL.of hlr⟩, for_wk (S := [l, f]) (Wk.list (SqL.of hlr) (by simp [lr_l, lr_f])) (fun i σ Hc => ∃ (rs : List (Str × NestedKey × List NestedKey)) (vs : List V) (x3 : Option V), σ = [some (.ref f), some (.ref l), some (.int most), x3] ∧ Kp [l, f] H4 Hc ∧ FeedAt Hc f ∧ Hc l = some (.lst vs) ∧ DtAll Hc (rs.map rowK) vs ∧ (rs.map (·.1)).Sublist (rootsL.take i) ∧ ∀ r ∈ rs, GoodWhere r.2.1 ∧ GoodItems r.2.2)
      ⟨[], [], none, rfl, Kp.refl, ⟨y, b, s4 _ _ hf3⟩, s4 _ _ hl3, .nil1, List.Sublist.refl _, fun r hr => by cases hr⟩ (fun i σ Hc h => by obtain ⟨_, _, _, _, h, _⟩ := h; exact h) ?_ ?_⟩
    · rintro i v σ Hc Hc' hi ⟨rs, vs, x3, rfl, kc, hfc, hlc, hd, hsub, hg⟩ sc hv
      rw [List.getElem?_map] at hv
      obtain ⟨root, hrt, rfl⟩ := Option.map_eq_some_iff.mp hv
      have kc' : Kp [l, f] H4 Hc' := kc.trans (.same sc)
      have hlc' := sc _ _ hlc
      have hd' := hd.same sc
      obtain ⟨x5, b5, hf5⟩ := hfc.same sc
      have sub1 : (rs.map (·.1)).Sublist (rootsL.take (i + 1)) := hsub.trans (List.take_sublist_take_left (by omega))
      have rsl : rs.length ≤ 12 := by
        have := (hsub.trans (List.take_sublist _ _)).length_le
        rw [List.length_map, roots_len] at this
        exact this
      have hvl : vs.length = rs.length := by rw [hd.length, List.length_map]
      refine ⟨_, rfl, _, _, rfl, .inl (SqL.of hlc'), _, rfl, _, _, rfl, rfl, _, rfl, ite2 (fun _ => ?_) (fun _ => ?_)⟩
      · refine ⟨_, rfl, f, x5, b5, 4, rfl, hf5, by omega, by omega, fun r6 y6 _ _ => ?_⟩
        have k6 : Kp [f] Hc' (upd Hc' f (.lst [.int y6, .bl b5])) := FeedAt.put hf5
        have hf6 : FeedAt (upd Hc' f (.lst [.int y6, .bl b5])) f := ⟨y6, b5, upd_same⟩
        have hl6 := k6.at hlc' (by simpa using f_l.symm)
        have hd6 := hd'.kp k6
        have k06 : Kp [l, f] H4 (upd Hc' f (.lst [.int y6, .bl b5])) := kc'.trans (k6.mono (by simp))
        refine ⟨rfl, _, rfl, ite2 (fun _ => ?_) (fun _ => ?_)⟩
        · refine ⟨_, rfl, .inl ⟨rfl, _, SqL.of hl6⟩, _, rfl, _, rfl, f, rfl, hf6, fun kw vw H7 gw dw k7 hf7 => ?_⟩
          obtain ⟨x8, b8, hf8⟩ := hf7
          refine ⟨_, rfl, _, rfl, f, x8, b8, 3, rfl, hf8, by omega, by omega, fun r8 y8 r80 r81 => ?_⟩
          have k8 : Kp [f] H7 (upd H7 f (.lst [.int y8, .bl b8])) := FeedAt.put hf8
          refine ⟨f, r8, rfl, ⟨y8, b8, upd_same⟩, r80, by omega, fun ks a H9 gi k9 hf9 d9 => ?_⟩
          refine ⟨by show 3 ≤ sizeLine; decide, fun t nt => ?_⟩
          have k69 : Kp [f] (upd Hc' f (.lst [.int y6, .bl b5])) H9 := (k7.trans k8).trans k9
          have sT : Same H9 (upd H9 t (.tup [.str root, vw, .ref a])) := Same.new nt
          have hl9 := sT _ _ (k69.at hl6 (by simpa using f_l.symm))
          have drow : Dt (upd H9 t (.tup [.str root, vw, .ref a])) (rowK (root, kw, ks)) (.ref t) := Dt.tup1 upd_same (.cons1 rfl (.cons1 ((dw.kp (k8.trans k9)).same sT) (.cons1 (d9.same sT) .nil1)))
          have kF : Kp [l] (upd H9 t (.tup [.str root, vw, .ref a])) (upd (upd H9 t (.tup [.str root, vw, .ref a])) l (.lst (vs ++ [.ref t]))) := Kp.put hl9 (fun z => z) (by simp)
          refine ⟨l, vs, _, rfl, rfl, hl9, by rw [sizeLine_eq]; omega, rs ++ [(root, kw, ks)], vs ++ [.ref t], _, rfl, ?_, (hf9.same sT).kp kF (by simpa using f_l), upd_same, ?_, ?_, ?_⟩
          · exact ((k06.trans (k69.mono (by simp))).trans (.same sT)).trans (kF.mono (by simp))
          · rw [List.map_append]
            exact (((hd6.kp k69).same sT).kp kF).append (.cons1 (drow.kp kF) .nil1)
          · rw [List.map_append, List.take_add_one, hrt]
            exact hsub.append (List.Sublist.refl _)
          · intro r hr
            rcases List.mem_append.mp hr with hr | hr
            · exact hg r hr
            · rw [List.mem_singleton.mp hr]
              exact ⟨gw, gi⟩
        · exact ⟨rs, vs, _, rfl, k06, hf6, hl6, hd6, sub1, hg⟩
      · exact ⟨rs, vs, _, rfl, kc', ⟨x5, b5, hf5⟩, hlc', hd', sub1, hg⟩
    · rintro σ Hc ⟨rs, vs, x3, rfl, kc, hfc, hlc, hd, hsub, hg⟩
      rw [List.length_map, List.take_length] at hsub
      refine ⟨_, rfl, l, _, rfl, .inl ⟨SqL.of hlc, fun t nt => ?_⟩⟩
      exact q (.tup (rs.map rowK)) t _ ⟨rs, rfl, hsub, hg⟩ (Dt.tup1 upd_same (hd.same (Same.new nt))) ((lift kc).trans (.new nt)) (hfc.same (Same.new nt))
end
end Mw

/-! The law's models at the heap; the world of ids; _law_id. -/
namespace Mw
open PySem PySem.Spec PyProof.Rows L2
structure MF where
  m : Addr
  ids : Addr
  el : Addr
  pl : Addr
  nm : Addr
def MF.l (F : MF) : List Addr := [F.m, F.ids, F.el, F.pl, F.nm]
def modelK (F : MF) (n : Int) : List (Key × V) := [(.inr "makes", .ref F.ids), (.inr "elders", .ref F.el), (.inr "plain", .ref F.pl), (.inr "names", .ref F.nm), (.inr "next", .int n)]
theorem mo_makes {F : MF} {n : Int} : valV (modelK F n) (.inr "makes") = some (.ref F.ids) := rfl
theorem mo_elders {F : MF} {n : Int} : valV (modelK F n) (.inr "elders") = some (.ref F.el) := rfl
theorem mo_plain {F : MF} {n : Int} : valV (modelK F n) (.inr "plain") = some (.ref F.pl) := rfl
theorem mo_names {F : MF} {n : Int} : valV (modelK F n) (.inr "names") = some (.ref F.nm) := rfl
theorem mo_next {F : MF} {n : Int} : valV (modelK F n) (.inr "next") = some (.int n) := rfl
theorem mo_put {F : MF} {n m : Int} : putK (modelK F n) (.inr "next") (.int m) = modelK F m := rfl
def idK (es : List Ent) : List (Key × V) := es.map fun e => (Sum.inl e.n, V.int e.id)
structure ModAt (H : Hp) (F : MF) (S : Wo) : Prop where
  obj : H F.m = some (.dK (modelK F S.next))
  ids : H F.ids = some (.dK (idK S.ents))
  el : ∃ kvs, H F.el = some (.dK kvs) ∧ (kvs.length : Int) ≤ S.next ∧ ∀ e ∈ S.ents, ∃ b, valV kvs (.inl e.n) = some (.ref b) ∧ H b = some (.tup (e.el.map V.int))
  pl : ∃ kvs, H F.pl = some (.dK kvs) ∧ (kvs.length : Int) ≤ S.next ∧ ∀ e ∈ S.ents, ∃ b v, valV kvs (.inl e.n) = some (.ref b) ∧ H b = some (.tup [v, .str e.wd]) ∧ Dt H e.st v
  nm : H F.nm = some (.dK (calledK S.names))
  nd : F.l.Nodup
theorem ModAt.kp {H H' : Hp} {F : MF} {S : Wo} {X : List Addr} (M : ModAt H F S) (k : Kp X H H') (h : ∀ a ∈ F.l, a ∉ X) : ModAt H' F S := by
  obtain ⟨k1, h1, h2, h3⟩ := M.el
  obtain ⟨k2, g1, g2, g3⟩ := M.pl
  refine ⟨k.at M.obj (h _ (by simp [MF.l])), k.at M.ids (h _ (by simp [MF.l])), ⟨k1, k.at h1 (h _ (by simp [MF.l])), h2, fun e he => ?_⟩, ⟨k2, k.at g1 (h _ (by simp [MF.l])), g2, fun e he => ?_⟩, k.at M.nm (h _ (by simp [MF.l])), M.nd⟩
  · obtain ⟨b, x, y⟩ := h3 e he
    exact ⟨b, x, k.tup y⟩
  · obtain ⟨b, v, x, y, z⟩ := g3 e he
    exact ⟨b, v, x, k.tup y, z.kp k⟩
theorem ModAt.same {H H' : Hp} {F : MF} {S : Wo} (M : ModAt H F S) (k : Same H H') : ModAt H' F S := M.kp (X := []) (.same k) (by simp)
theorem idK_get {es : List Ent} {n : Int} : valV (idK es) (.inl n) = (es.find? fun e => decide (e.n = n)).map fun e => V.int e.id := by
  unfold idK
  induction es with
  | nil => rfl
  | cons p r ih =>
    rw [List.map_cons, List.find?_cons]
    by_cases h : p.n = n
    · rw [valV_pos (by rw [h]), decide_eq_true h]
      rfl
    · rw [valV_neg (by intro z; exact h (Sum.inl.inj z)), decide_eq_false h]
      exact ih
theorem idK_at {ws : List NestedKey} {S : Wo} (G : Good ws S) {k : Int} (h : k ∈ S.nums) : valV (idK S.ents) (.inl k) = some (.int (S.idAt k)) := by
  obtain ⟨e, he, rfl⟩ := Wo.mem_nums.mp h
  rw [idK_get, G.ent he, G.idAt he]
  rfl
/-- behind a lock -/
theorem unlock {H Hc : Hp} {d : Addr} {u x : HO} (h : H d = some u) (s : Same (upd H d x) Hc) : Same H (upd Hc d u) := fun b o e => by
  by_cases z : b = d
  · subst z
    rw [h] at e
    cases e
    exact upd_same
  · rw [upd_ne z]
    exact s _ _ ((upd_ne z).trans e)
theorem unlockK {S : List Addr} {H Hc : Hp} {d : Addr} {u x : HO} (h : H d = some u) (s : Kp S (upd H d x) Hc) : Kp S H (upd Hc d u) := fun b o e k => by
  by_cases z : b = d
  · subst z
    rw [h] at e
    cases e
    exact upd_same
  · rw [upd_ne z]
    exact s _ _ ((upd_ne z).trans e) k
/-! the world -/
def wPut (ws : List NestedKey) (k : NestedKey) : List NestedKey := if k ∈ ws then ws else ws ++ [k]
theorem wPut_old {ws : List NestedKey} {k : NestedKey} {i : Nat} {j : NestedKey} (h : ws[i]? = some j) : (wPut ws k)[i]? = some j := by
  unfold wPut
  split
  · exact h
  · rw [List.getElem?_append_left (List.getElem?_eq_some_iff.mp h).1]
    exact h
theorem wPut_nd {ws : List NestedKey} {k : NestedKey} (h : ws.Nodup) : (wPut ws k).Nodup := by
  unfold wPut
  split
  · exact h
  · next hk => exact List.nodup_append.mpr ⟨h, by simp, fun a ha b hb z => hk (by rw [← List.mem_singleton.mp hb, ← z]; exact ha)⟩
theorem wPut_len {ws : List NestedKey} {k : NestedKey} : (wPut ws k).length ≤ ws.length + 1 := by
  unfold wPut
  split
  · omega
  · rw [List.length_append]
    exact Nat.le_refl _
structure WldAt (P : Program) (w : World) (H : Hp) (d : Addr) (ws : List NestedKey) : Prop where
  ex : ∃ xs : List NEnt, NdAt P w H d xs ∧ xs.map (·.1) = ws ∧ ∀ (i : Nat) x, xs[i]? = some x → x.2.2 = i
section
variable {P : Program} {w : World} {K : PySem.W.Frag} {mg : Str → Option Value} {base : Heap}
variable {H H' : Hp} {d : Addr} {ws : List NestedKey}
theorem WldAt.kp {X : List Addr} (W : WldAt P w H d ws) (k : Kp X H H') (n : d ∉ X) : WldAt P w H' d ws := by
  obtain ⟨xs, h1, h2⟩ := W.ex
  exact ⟨xs, h1.kp k n, h2⟩
theorem WldAt.same (W : WldAt P w H d ws) (k : Same H H') : WldAt P w H' d ws := W.kp (X := []) (.same k) (by simp)
theorem nval_none {xs : List NEnt} {k : NestedKey} : nval xs k = none ↔ k ∉ xs.map (·.1) := by
  unfold nval
  rw [Option.map_eq_none_iff, List.find?_eq_none]
  exact ⟨fun h hm => by
    obtain ⟨x, hx, e⟩ := List.mem_map.mp hm
    exact h x hx (decide_eq_true e), fun h x hx z => h (List.mem_map.mpr ⟨x, hx, of_decide_eq_true z⟩)⟩
theorem nval_ix {xs : List NEnt} {k : NestedKey} (hi : ∀ (i : Nat) x, xs[i]? = some x → x.2.2 = i) (h : k ∈ xs.map (·.1)) : ∃ i : Nat, nval xs k = some (i : Int) ∧ (xs.map (·.1))[i]? = some k := by
  unfold nval
  cases q : xs.find? (fun x => decide (x.1 = k)) with
  | none =>
    obtain ⟨x, hx, e⟩ := List.mem_map.mp h
    exact absurd (decide_eq_true e) (List.find?_eq_none.mp q x hx)
  | some x =>
    obtain ⟨e, hx⟩ := findD q
    obtain ⟨i, hlt, rfl⟩ := List.getElem_of_mem hx
    refine ⟨i, ?_, ?_⟩
    · show some (xs[i].2.2) = _
      rw [hi i _ (List.getElem?_eq_getElem hlt)]
    · rw [List.getElem?_map, List.getElem?_eq_getElem hlt]
      show some xs[i].1 = _
      rw [e]
def spId (P : Program) (w : World) : Sp := fun vs H Q _ => ∃ d ws st v b ei wd, vs = [.ref d, v, .ref b, .str wd] ∧ WldAt P w H d ws ∧ ws.length < 1000000 ∧ Dt H st v ∧ GoodStand st ∧ H b = some (.tup (ei.map V.int)) ∧
  ∀ (H' : Hp) (i : Nat), Kp [d] H H' → WldAt P w H' d (wPut ws (mk3 st ei wd)) → (wPut ws (mk3 st ei wd))[i]? = some (mk3 st ei wd) → Q (.int i) H'
theorem ok_id (T : Tx K mg) : OkG P w K mg base CX0 1 "_law_id" ["_law_world", "_law_stand_here", "_law_elders_here", "_law_words_here"] (spId P w) := by
  refine T.fLawId.ok scLawId (fun vs H Q E h => ?_) (fun cdv A outer s H vs Q E hr h => ?_)
  · obtain ⟨d, ws, st, v, b, ei, wd, rfl, _⟩ := h
    rfl
  · obtain ⟨d, ws, st, v, b, ei, wd, rfl, W, hl, hd, gs, hb, q⟩ := h
    obtain ⟨xs, N, hxs, hix⟩ := W.ex
    refine ⟨_, PSs.nox (pss_cons (ps_set (i := 4) scLawId.nd rfl (Or.inl rfl) (pe_tup (pa_cons (pv 1) (pa_cons (pv 2) (pa_cons (pv 3) pa_nil)))))
      (pss_cons (ps_if (pt_cmp (pc_nnotin hr.units (pv 4) (pv 0))) (pss_one (ps_nput hr.units (pv 0) (pv 4) (pe_callB call_lenN (by rfl) T.b_len PySem.boot_len (pa_cons (pv 0) pa_nil)) rfl)) pss_nil)
      (pss_one (ps_ret (pe_nget hr.units (pv 0) (pv 4) (fun _ _ => rfl)))))), ?_⟩
    refine ⟨_, rfl, _, rfl, _, rfl, by show 3 ≤ sizeLine; decide, fun t nt => ?_⟩
    have s1 : Same H (upd H t (.tup [v, .ref b, .str wd])) := Same.new nt
    have dm : Dt (upd H t (.tup [v, .ref b, .str wd])) (mk3 st ei wd) (.ref t) := made_of upd_same (hd.same s1) (s1 _ _ hb)
    have dp := depth_made gs ei wd
    have N1 := N.same s1
    have hxl : xs.length = ws.length := by rw [← hxs, List.length_map]
    refine ⟨_, rfl, _, rfl, d, t, xs, mk3 st ei wd, rfl, rfl, N1, dm, dp, _, rfl, ?_⟩
    by_cases hk : mk3 st ei wd ∈ ws
    · obtain ⟨i, hv, hi⟩ := nval_ix hix (by rw [hxs]; exact hk)
      rw [hv]
      have e : wPut ws (mk3 st ei wd) = ws := if_pos hk
      rw [e] at q
      refine iteF ⟨_, rfl, _, rfl, d, t, xs, mk3 st ei wd, i, rfl, rfl, N1, dm, dp, hv, q _ i (.same s1) (W.same s1) (by rw [← hxs]; exact hi)⟩
    · have hv : nval xs (mk3 st ei wd) = none := nval_none.mpr (by rw [hxs]; exact hk)
      rw [hv]
      have e : wPut ws (mk3 st ei wd) = ws ++ [mk3 st ei wd] := if_neg hk
      rw [e] at q
      refine iteT ⟨_, rfl, d, xs, rfl, N1, _, rfl, _, rfl, d, t, xs, mk3 st ei wd, xs.length, rfl, rfl, rfl, N1, dm, dp, hv, ?_⟩
      have k2 : Kp [d] (upd H t (.tup [v, .ref b, .str wd])) (upd (upd H t (.tup [v, .ref b, .str wd])) d (NdO P w d (xs ++ [(mk3 st ei wd, t, (xs.length : Int))]))) := Kp.put N1.at_ nkpt (by simp)
      have dm2 := dm.kp k2
      have N2 : NdAt P w (upd (upd H t (.tup [v, .ref b, .str wd])) d (NdO P w d (xs ++ [(mk3 st ei wd, t, (xs.length : Int))]))) d (xs ++ [(mk3 st ei wd, t, (xs.length : Int))]) := by
        refine ⟨upd_same, fun x hx => ?_, ?_⟩
        · rcases List.mem_append.mp hx with hx | hx
          · exact ⟨(N1.keys x hx).1.kp k2, (N1.keys x hx).2⟩
          · rw [List.mem_singleton.mp hx]
            exact ⟨dm2, dp⟩
        · rw [List.length_append, sizeLine_eq]
          show xs.length + 1 < _
          omega
      have hix2 : ∀ (i : Nat) x, (xs ++ [((mk3 st ei wd, t, (xs.length : Int)) : NEnt)])[i]? = some x → x.2.2 = i := by
        intro i x hx
        rcases Nat.lt_or_ge i xs.length with z | z
        · rw [List.getElem?_append_left z] at hx
          exact hix i x hx
        · rw [List.getElem?_append_right z] at hx
          have : i - xs.length = 0 := by
            cases y : i - xs.length with
            | zero => rfl
            | succ n =>
              rw [y] at hx
              cases hx
          rw [this] at hx
          cases hx
          show (xs.length : Int) = i
          omega
      have hxs2 : (xs ++ [((mk3 st ei wd, t, (xs.length : Int)) : NEnt)]).map (·.1) = ws ++ [mk3 st ei wd] := by rw [List.map_append, hxs]; rfl
      have hv2 : nval (xs ++ [((mk3 st ei wd, t, (xs.length : Int)) : NEnt)]) (mk3 st ei wd) = some (xs.length : Int) := by
        unfold nval at hv ⊢
        rw [List.find?_append, Option.map_eq_none_iff.mp hv]
        simp
      refine ⟨_, rfl, _, rfl, d, t, _, mk3 st ei wd, xs.length, rfl, rfl, N2, dm2, dp, hv2, q _ xs.length ((Kp.same s1).trans k2) ⟨⟨_, N2, hxs2, hix2⟩⟩ ?_⟩
      rw [hxl, List.getElem?_append_right (Nat.le_refl _), Nat.sub_self]
      rfl
end
end Mw

/-! _law_put, _law_model. -/
namespace Mw
open PySem PySem.Spec PyProof.Rows L2
section
variable {P : Program} {w : World} {K : PySem.W.Frag} {mg : Str → Option Value} {base : Heap}
theorem putK_le (c : List (Key × V)) (k : Key) (x : V) : (putK c k x).length ≤ c.length + 1 := by
  unfold putK
  split
  · rw [List.length_map]
    omega
  · rw [List.length_append]
    exact Nat.le_refl _
theorem MF.ne (F : MF) (h : F.l.Nodup) : (F.m ≠ F.ids ∧ F.m ≠ F.el ∧ F.m ≠ F.pl ∧ F.m ≠ F.nm) ∧ (F.ids ≠ F.el ∧ F.ids ≠ F.pl ∧ F.ids ≠ F.nm) ∧ (F.el ≠ F.pl ∧ F.el ≠ F.nm) ∧ F.pl ≠ F.nm := by
  simpa [MF.l] using h
def spPutL (P : Program) (w : World) : Sp := fun vs H Q _ => ∃ d ws F S st v el b wd, vs = [.ref d, .ref F.m, v, .ref b, .str wd] ∧ WldAt P w H d ws ∧ ws.length < 1000000 ∧ ModAt H F S ∧ Good ws S ∧ S.next < 1000000 ∧ Dt H st v ∧ GoodStand st ∧ H b = some (.tup (el.map V.int)) ∧ (∀ k ∈ el, k ∈ S.nums) ∧ el.length ≤ 1000 ∧
  ∀ (H' : Hp) (ix : Nat), (wPut ws (mk3 st (el.map S.idAt) wd))[ix]? = some (mk3 st (el.map S.idAt) wd) → Kp (d :: F.l) H H' → WldAt P w H' d (wPut ws (mk3 st (el.map S.idAt) wd)) → ModAt H' F (S.put st el wd ix (el.map S.idAt)).1 → Q (.int (S.put st el wd ix (el.map S.idAt)).2) H'
theorem find_take {es : List Ent} {i : Nat} {e : Ent} {p : Ent → Bool} (h : es[i]? = some e) (hn : (es.take i).find? p = none) : (es.take (i + 1)).find? p = if p e then some e else none := by
  rw [List.take_add_one, h, List.find?_append, hn]
  show List.find? p [e] = _
  rw [List.find?_cons]
  cases p e <;> rfl
theorem find_at {es : List Ent} {i : Nat} {e : Ent} {p : Ent → Bool} (h : es[i]? = some e) (hn : (es.take i).find? p = none) (hp : p e = true) : es.find? p = some e := by
  have := find_take h hn
  rw [if_pos hp] at this
  have e2 : es = es.take (i + 1) ++ es.drop (i + 1) := (List.take_append_drop _ _).symm
  rw [e2, List.find?_append, this]
  rfl
theorem ok_putL (T : Tx K mg) : OkG P w K mg base CX0 2 "_law_put" ["_law_world", "_law_model_here", "_law_stand_here", "_law_elders_here", "_law_words_here"] (spPutL P w) := by
  refine T.fLawPut.ok scLawPut (fun vs H Q E h => ?_) (fun cdv A outer s H vs Q E hr h => ?_)
  · obtain ⟨d, ws, F, S, st, v, el, b, wd, rfl, _⟩ := h
    rfl
  · obtain ⟨d, ws, F, S, st, v, el, b, wd, rfl, W, hwl, M, G, hnx, hd, gs, hb, hel, hell, q⟩ := h
    refine ⟨_, PSs.nox (pss_cons (ps_set (i := 5) scLawPut.nd rfl (Or.inl rfl) (pcall T.dLawId (ok_id T) hr pass0 (pa_cons (pv 0) (pa_cons (pv 2) (pa_cons
          (pe_callTy call_tuple_of (by rfl) T.b_tuple (by decide +kernel) (pa_cons (pe_lc (own := [("_law_elder", 6)]) (g := gName 6) (tt := tYes) rfl scLawPut.nd (pi_tup (pv 3)) (blkOk_by (N := nLawPut) (sc := defScope sLawPut) (by decide +kernel)) (fun _ _ _ _ _ => pg_name (i := 6) scLawPut.nd rfl (Or.inl rfl)) (fun _ _ _ _ _ => pts_nil)
            (fun _ _ _ _ _ => pe_dget (hu_of hr) (pe_dget (hu_of hr) (pv 1) pe_str (fun _ _ => rfl)) (pv 6) (fun _ _ => rfl))) pa_nil)) (pa_cons (pv 4) pa_nil))))))
      (pss_cons (ps_lock (ps_for PassesOwn.never rfl (pi_items (pe_dget (hu_of hr) (pv 1) pe_str (fun _ _ => rfl))) (pg_tup rfl (pgs_cons (pg_name (i := 7) scLawPut.nd rfl (Or.inl rfl)) (pgs_cons (pg_name (i := 8) scLawPut.nd rfl (Or.inl rfl)) pgs_nil)))
        (pss_one (ps_if (pt_cmpR op_eq (pv 8) (pv 5) (nomark _)) (pss_one (ps_ret (pv 7))) pss_nil))))
      (pss_cons (ps_set (i := 7) scLawPut.nd rfl (Or.inl rfl) (pe_dget (hu_of hr) (pv 1) pe_str (fun _ _ => rfl)))
      (pss_cons (ps_dput (hu_of hr) (pe_dget (hu_of hr) (pv 1) pe_str (fun _ _ => rfl)) (pv 7) (pv 5) rfl)
      (pss_cons (ps_dput (hu_of hr) (pe_dget (hu_of hr) (pv 1) pe_str (fun _ _ => rfl)) (pv 7) (pe_callTy call_tupleT (by rfl) T.b_tuple (by decide +kernel) (pa_cons (pv 3) pa_nil)) rfl)
      (pss_cons (ps_dput (hu_of hr) (pe_dget (hu_of hr) (pv 1) pe_str (fun _ _ => rfl)) (pv 7) (pe_tup (pa_cons (pv 2) (pa_cons (pv 4) pa_nil))) rfl)
      (pss_cons (ps_dput (hu_of hr) (pv 1) pe_str (pe_op op_add (pv 7) pe_int) rfl)
      (pss_one (ps_ret (pv 7)))))))))), ?_⟩
    have len0 := G.len
    have ⟨⟨m_ids, m_el, m_pl, m_nm⟩, ⟨ids_el, ids_pl, ids_nm⟩, ⟨el_pl, el_nm⟩, pl_nm⟩ := F.ne M.nd
    have hgm : ∀ k ∈ el, valV (idK S.ents) (.inl k) = some (.int (S.idAt k)) := fun k hk => idK_at G (hel k hk)
    refine ⟨_, rfl, _, rfl, _, rfl, _, rfl, ⟨_, SqT.of hb⟩, fun D nD => lc_same (Wk.tup (SqT.of hb)) nD (fun j acc => acc = ((el.take j).map S.idAt).map V.int) rfl ?_ ?_⟩
    · intro j x acc Hj hj hla hDj sj r hx
      rw [List.getElem?_map] at hx
      obtain ⟨k, hk, rfl⟩ := Option.map_eq_some_iff.mp hx
      have Mj := M.same sj
      refine ⟨rfl, _, rfl, F.m, .ref F.ids, rfl, by rw [← mo_makes]; exact DGet.k (k := .inr "makes") Mj.obj, _, rfl, F.ids, _, rfl, by rw [← hgm k (List.mem_of_getElem? hk)]; exact DGet.k (k := .inl k) Mj.ids, ?_⟩
      refine LcS.put nD sj hDj hla (by rw [List.length_map] at hj; rw [sizeLine_eq]; omega) ?_
      rw [r, List.take_add_one, hk, List.map_append, List.map_append]
      rfl
    · intro acc H1 s1 r hD1
      rw [List.length_map, List.take_length] at r
      subst r
      refine ⟨D, _, rfl, .inl ⟨SqL.of hD1, fun t nt => ?_⟩⟩
      have s2 : Same H1 (upd H1 t (.tup ((el.map S.idAt).map V.int))) := Same.new nt
      have ht2 : (upd H1 t (.tup ((el.map S.idAt).map V.int))) t = some (.tup ((el.map S.idAt).map V.int)) := upd_same
      generalize upd H1 t (.tup ((el.map S.idAt).map V.int)) = H2 at s2 ht2
      have s02 := s1.trans s2
      refine ⟨_, rfl, d, ws, st, v, t, el.map S.idAt, wd, rfl, W.same s02, hwl, hd.same s02, gs, ht2, fun H3 ix k3 W3 hix => ?_⟩
      have k03 : Kp [d] H H3 := (Kp.same s02).trans k3
      obtain ⟨xs, N, _⟩ := W.ex
      have dF : ∀ a ∈ F.l, a ∉ [d] := by
        intro a ha z
        rw [List.mem_singleton.mp z] at ha
        obtain ⟨kv1, g1, _⟩ := M.el
        obtain ⟨kv2, g2, _⟩ := M.pl
        have ne : ∀ {a kvs}, H a = some (.dK kvs) → d ≠ a := fun h => ne_of N.at_ h (by intro z; cases z)
        simp only [MF.l, List.mem_cons, List.not_mem_nil, or_false] at ha
        rcases ha with z | z | z | z | z
        · exact ne M.obj z
        · exact ne M.ids z
        · exact ne g1 z
        · exact ne g2 z
        · exact ne M.nm z
      have M3 := M.kp k03 dF
      have fid : S.find st el wd = (S.ents.find? fun e => decide (e.id = (ix : Int))).map (·.n) := G.find_id (G.elds_of hel) (by omega) (by simpa using hix) (fun i k h => wPut_old h) (wPut_nd G.wnd)
      have d_ids : F.m ≠ F.ids := m_ids
      let HL : Obj → Hp := fun od => upd H3 F.ids (.frz od (.dK (idK S.ents)))
      refine ⟨F.ids, _, M3.ids, trivial, fun od => ?_⟩
      have hob : (HL od) F.m = some (.dK (modelK F S.next)) := (upd_ne m_ids).trans M3.obj
      refine ⟨_, rfl, F.m, .ref F.ids, rfl, by rw [← mo_makes]; exact DGet.k (k := .inr "makes") hob, F.ids, od, _, rfl, upd_same, for_wk (S := []) (Wk.items upd_same) (fun i σ Hc => Kp [] (HL od) Hc ∧ ∃ x7 x8, σ = [some (.ref d), some (.ref F.m), some v, some (.ref b), some (.str wd), some (.int ix), none, x7, x8] ∧ (S.ents.take i).find? (fun e => decide (e.id = (ix : Int))) = none)
        ⟨Kp.refl, none, none, rfl, rfl⟩ (fun i σ Hc h => h.1) ?_ ?_⟩
      · rintro i x σ Hc Hc' hi ⟨kc, x7, x8, rfl, hnone⟩ sc ⟨tt, ky, z, rfl, htt, hkz⟩
        unfold idK at hkz
        rw [List.getElem?_map] at hkz
        obtain ⟨e, he, ee⟩ := Option.map_eq_some_iff.mp hkz
        cases ee
        have scc : Same (HL od) Hc' := (kc.trans (.same sc)).to_same
        refine ⟨_, _, rfl, SqT.of htt, rfl, _, _, rfl, _, _, rfl, rfl, _, rfl, _, rfl, rfl, _, rfl, ite2 (fun z => ?_) (fun z => ?_)⟩
        · have z : e.id = (ix : Int) := by injection (of_decide_eq_true z)
          have hfe := find_at he hnone (decide_eq_true z)
          rw [hfe] at fid
          have hput : S.put st el wd ix (el.map S.idAt) = (S, e.n) := by
            unfold Wo.put
            rw [fid]
            rfl
          have sU : Same H3 (upd Hc' F.ids (.dK (idK S.ents))) := unlock M3.ids scc
          have := q (upd Hc' F.ids (.dK (idK S.ents))) ix hix ((k03.trans (.same sU)).mono (by simp)) (W3.same sU) (by rw [hput]; exact M3.same sU)
          rw [hput] at this
          exact ⟨_, rfl, scc _ _ upd_same, this⟩
        · refine ⟨kc.trans (.same sc), _, _, rfl, ?_⟩
          rw [find_take he hnone, if_neg]
          intro y
          exact z (decide_eq_true (by rw [of_decide_eq_true y]))
      · rintro σ Hc ⟨kc, x7, x8, rfl, hnone⟩
        rw [show (idK S.ents).length = S.ents.length from List.length_map _, List.take_length] at hnone
        rw [hnone] at fid
        have fid : S.find st el wd = none := fid
        have hput : S.put st el wd ix (el.map S.idAt) = ({ S with ents := S.ents ++ [⟨S.next, st, el, wd, ix, el.map S.idAt⟩], next := S.next + 1 }, S.next) := by
          unfold Wo.put
          rw [fid]
        have qq := fun (H' : Hp) => q H' ix hix
        rw [hput] at qq
        refine ⟨kc.to_same _ _ upd_same, ?_⟩
        have sU : Same H3 (upd Hc F.ids (.dK (idK S.ents))) := unlock M3.ids kc.to_same
        generalize upd Hc F.ids (.dK (idK S.ents)) = H4 at sU
        have M4 := M3.same sU
        have k04 : Kp (d :: F.l) H H4 := (k03.trans (.same sU)).mono (by simp)
        have W4 := W3.same sU
        have hb4 : H4 b = some (.tup (el.map V.int)) := k04.tup hb
        have hd4 := hd.kp k04
        obtain ⟨kv1, g1, gl1, g1e⟩ := M4.el
        obtain ⟨kv2, g2, gl2, g2e⟩ := M4.pl
        have hids : valV (idK S.ents) (.inl S.next) = none := by
          rw [idK_get]
          cases y : S.ents.find? (fun e => decide (e.n = S.next)) with
          | none => rfl
          | some e =>
            obtain ⟨y1, y2⟩ := findD y
            have := (G.rng e y2).2
            omega
        refine ⟨_, rfl, F.m, _, rfl, by rw [← mo_next]; exact DGet.k (k := .inr "next") M4.obj, ?_⟩
        refine ⟨_, rfl, _, rfl, F.m, .ref F.ids, rfl, by rw [← mo_makes]; exact DGet.k (k := .inr "makes") M4.obj, _, rfl, F.ids, _, rfl, DPut.k (k := .inl S.next) M4.ids (by unfold idK; rw [List.length_map, sizeLine_eq]; omega), ?_⟩
        rw [putK_new _ hids]
        let H5 : Hp := upd H4 F.ids (.dK (idK S.ents ++ [(.inl S.next, .int ix)]))
        have k5 : Kp [F.ids] H4 H5 := Kp.put M4.ids (fun z => z) (by simp)
        have hm5 : H5 F.m = some (.dK (modelK F S.next)) := (upd_ne m_ids).trans M4.obj
        have he5 : H5 F.el = some (.dK kv1) := (upd_ne ids_el.symm).trans g1
        have hb5 : H5 b = some (.tup (el.map V.int)) := k5.tup hb4
        refine ⟨_, rfl, _, _, rfl, SqT.of hb5, _, rfl, F.m, .ref F.el, rfl, by rw [← mo_elders]; exact DGet.k (k := .inr "elders") hm5, _, rfl, F.el, _, rfl, DPut.k (k := .inl S.next) he5 (by rw [sizeLine_eq]; omega), ?_⟩
        let H6 : Hp := upd H5 F.el (.dK (putK kv1 (.inl S.next) (.ref b)))
        have k6 : Kp [F.el] H5 H6 := Kp.put he5 (fun z => z) (by simp)
        have hm6 : H6 F.m = some (.dK (modelK F S.next)) := (upd_ne m_el).trans hm5
        have hp6 : H6 F.pl = some (.dK kv2) := (upd_ne el_pl.symm).trans ((upd_ne ids_pl.symm).trans g2)
        refine ⟨_, rfl, _, rfl, by show 2 ≤ sizeLine; decide, fun t2 nt2 => ?_⟩
        let H7 : Hp := upd H6 t2 (.tup [v, .str wd])
        have s7 : Same H6 H7 := Same.new nt2
        have ht7 : H7 t2 = some (.tup [v, .str wd]) := upd_same
        have hm7 := s7 _ _ hm6
        have hp7 := s7 _ _ hp6
        refine ⟨_, rfl, F.m, .ref F.pl, rfl, by rw [← mo_plain]; exact DGet.k (k := .inr "plain") hm7, _, rfl, F.pl, _, rfl, DPut.k (k := .inl S.next) hp7 (by rw [sizeLine_eq]; omega), ?_⟩
        let H8 : Hp := upd H7 F.pl (.dK (putK kv2 (.inl S.next) (.ref t2)))
        have k8 : Kp [F.pl] H7 H8 := Kp.put hp7 (fun z => z) (by simp)
        have hm8 : H8 F.m = some (.dK (modelK F S.next)) := (upd_ne m_pl).trans hm7
        refine ⟨_, rfl, _, _, rfl, rfl, _, rfl, F.m, _, rfl, DPut.k (k := .inr "next") hm8 (by show 5 < sizeLine; decide), ?_⟩
        rw [mo_put]
        let H9 : Hp := upd H8 F.m (.dK (modelK F (S.next + 1)))
        have k9 : Kp [F.m] H8 H9 := Kp.put hm8 (fun z => z) (by simp)
        have kF : Kp F.l H4 H9 := (((k5.mono (by simp [MF.l])).trans (k6.mono (by simp [MF.l]))).trans ((Kp.same s7).trans (k8.mono (by simp [MF.l])))).trans (k9.mono (by simp [MF.l]))
        refine ⟨_, rfl, qq H9 (k04.trans (kF.mono fun a ha => List.mem_cons_of_mem _ ha)) (W4.kp kF fun z => dF d z (by simp)) ⟨upd_same, ?_, ⟨putK kv1 (.inl S.next) (.ref b), ?_, ?_, ?_⟩, ⟨putK kv2 (.inl S.next) (.ref t2), ?_, ?_, ?_⟩, ?_, M.nd⟩⟩
        · have e : idK (S.ents ++ [(⟨S.next, st, el, wd, ix, el.map S.idAt⟩ : Ent)]) = idK S.ents ++ [(.inl S.next, .int ix)] := by
            unfold idK
            rw [List.map_append]
            rfl
          show H9 F.ids = some (.dK (idK (S.ents ++ [(⟨S.next, st, el, wd, ix, el.map S.idAt⟩ : Ent)])))
          rw [e]
          exact (upd_ne m_ids.symm).trans ((upd_ne ids_pl).trans (s7 _ _ ((upd_ne ids_el).trans upd_same)))
        · exact (upd_ne m_el.symm).trans ((upd_ne el_pl).trans (s7 _ _ upd_same))
        · have := putK_le kv1 (.inl S.next) (.ref b)
          show ((putK kv1 (.inl S.next) (.ref b)).length : Int) ≤ S.next + 1
          omega
        · intro e he
          rw [valV_put]
          rcases List.mem_append.mp he with he | he
          · have := (G.rng e he).2
            rw [if_neg (fun z => by have := Sum.inl.inj z; omega)]
            obtain ⟨b', h1, h2⟩ := g1e e he
            exact ⟨b', h1, kF.tup h2⟩
          · rw [List.mem_singleton.mp he, if_pos rfl]
            exact ⟨b, rfl, kF.tup hb4⟩
        · exact (upd_ne m_pl.symm).trans upd_same
        · have := putK_le kv2 (.inl S.next) (.ref t2)
          show ((putK kv2 (.inl S.next) (.ref t2)).length : Int) ≤ S.next + 1
          omega
        · intro e he
          rw [valV_put]
          rcases List.mem_append.mp he with he | he
          · have := (G.rng e he).2
            rw [if_neg (fun z => by have := Sum.inl.inj z; omega)]
            obtain ⟨b', v', h1, h2, h3⟩ := g2e e he
            exact ⟨b', v', h1, kF.tup h2, h3.kp kF⟩
          · rw [List.mem_singleton.mp he, if_pos rfl]
            exact ⟨t2, v, rfl, k9.tup (k8.tup ht7), hd4.kp kF⟩
        · exact (upd_ne m_nm.symm).trans ((upd_ne pl_nm.symm).trans (s7 _ _ ((upd_ne el_nm.symm).trans ((upd_ne ids_nm.symm).trans M4.nm))))
end
end Mw

/-! _law_model, _law_elders, _law_line. -/
namespace Mw
open PySem PySem.Spec PyProof.Rows L2
section
variable {P : Program} {w : World} {K : PySem.W.Frag} {mg : Str → Option Value} {base : Heap}
def spModel : Sp := fun vs H Q _ => vs = [] ∧ ∀ (F : MF) H', (∀ a ∈ F.l, H a = none) → F.l.Nodup → Same H H' → ModAt H' F woNew → Q (.ref F.m) H'
theorem ok_model (T : Tx K mg) : OkG P w K mg base CX0 1 "_law_model" [] spModel := by
  refine T.fLawModel.ok scLawModel (fun vs H Q E h => ?_) (fun cdv A outer s H vs Q E hr h => ?_)
  · obtain ⟨rfl, _⟩ := h
    rfl
  · obtain ⟨rfl, q⟩ := h
    refine ⟨_, PSs.nox (pss_one (ps_ret (pe_disp (pps_cons pe_str pe_dnewK (pps_cons pe_str pe_dnewK (pps_cons pe_str pe_dnewK (pps_cons pe_str pe_dnewK (pps_cons pe_str pe_int pps_nil))))) (by rfl) (by rfl) (fun z => by cases z) (by decide)))), ?_⟩
    intro m nm0 a na b nb c nc d nd
    let H1 : Hp := upd H m (.dK [])
    let H2 : Hp := upd H1 a (.dK [])
    let H3 : Hp := upd H2 b (.dK [])
    let H4 : Hp := upd H3 c (.dK [])
    let H5 : Hp := upd H4 d (.dK [])
    have s1 : Same H H1 := Same.new nm0
    have s2 : Same H1 H2 := Same.new na
    have s3 : Same H2 H3 := Same.new nb
    have s4 : Same H3 H4 := Same.new nc
    have s5 : Same H4 H5 := Same.new nd
    have hm1 : H1 m = some (.dK []) := upd_same
    have ha2 : H2 a = some (.dK []) := upd_same
    have hb3 : H3 b = some (.dK []) := upd_same
    have hc4 : H4 c = some (.dK []) := upd_same
    have hd5 : H5 d = some (.dK []) := upd_same
    have m_a : m ≠ a := ne_of_none hm1 na
    have m_b : m ≠ b := ne_of_none (s2 _ _ hm1) nb
    have m_c : m ≠ c := ne_of_none (s3 _ _ (s2 _ _ hm1)) nc
    have m_d : m ≠ d := ne_of_none (s4 _ _ (s3 _ _ (s2 _ _ hm1))) nd
    have a_b : a ≠ b := ne_of_none ha2 nb
    have a_c : a ≠ c := ne_of_none (s3 _ _ ha2) nc
    have a_d : a ≠ d := ne_of_none (s4 _ _ (s3 _ _ ha2)) nd
    have b_c : b ≠ c := ne_of_none hb3 nc
    have b_d : b ≠ d := ne_of_none (s4 _ _ hb3) nd
    have c_d : c ≠ d := ne_of_none hc4 nd
    have hm5 : H5 m = some (.dK []) := s5 _ _ (s4 _ _ (s3 _ _ (s2 _ _ hm1)))
    refine ⟨hm5, modelK ⟨m, a, b, c, d⟩ 0, rfl, by show 5 ≤ 15; decide, ?_⟩
    have e : mergeK [] (modelK ⟨m, a, b, c, d⟩ 0) = modelK ⟨m, a, b, c, d⟩ 0 := rfl
    rw [e]
    refine q ⟨m, a, b, c, d⟩ _ ?_ ?_ (Same.put0 ((((s1.trans s2).trans s3).trans s4).trans s5) nm0) ⟨upd_same, ?_, ⟨[], ?_, Int.le_refl _, fun e he => by cases he⟩, ⟨[], ?_, Int.le_refl _, fun e he => by cases he⟩, ?_, ?_⟩
    · intro x hx
      simp only [MF.l, List.mem_cons, List.not_mem_nil, or_false] at hx
      rcases hx with rfl | rfl | rfl | rfl | rfl
      · exact nm0
      · exact Same.no s1 na
      · exact Same.no (s1.trans s2) nb
      · exact Same.no ((s1.trans s2).trans s3) nc
      · exact Same.no (((s1.trans s2).trans s3).trans s4) nd
    · simp [MF.l, m_a, m_b, m_c, m_d, a_b, a_c, a_d, b_c, b_d, c_d]
    · exact (upd_ne m_a.symm).trans (s5 _ _ (s4 _ _ (s3 _ _ ha2)))
    · exact (upd_ne m_b.symm).trans (s5 _ _ (s4 _ _ hb3))
    · exact (upd_ne m_c.symm).trans (s5 _ _ hc4)
    · exact (upd_ne m_d.symm).trans hd5
    · simp [MF.l, m_a, m_b, m_c, m_d, a_b, a_c, a_d, b_c, b_d, c_d]
theorem idK_keys {es : List Ent} : (idK es).map (·.1) = (es.map (·.n)).map Sum.inl := by
  unfold idK
  rw [List.map_map, List.map_map]
  rfl
theorem nums_len {S : Wo} : S.nums.length = S.ents.length := List.length_map _
def spElders : Sp := fun vs H Q _ => ∃ f F S ws, vs = [.ref f, .ref F.m] ∧ FeedAt H f ∧ ModAt H F S ∧ Good ws S ∧ S.next < 1000000 ∧ f ∉ F.l ∧
  ∀ (el : List Int) a H', (∀ k ∈ el, k ∈ S.nums) → el.length ≤ 3 → Kp [f] H H' → FeedAt H' f → H' a = some (.tup (el.map V.int)) → Q (.ref a) H'
theorem ok_elders (T : Tx K mg) : OkG P w K mg base CX0 2 "_law_elders" ["_law_feed_here", "_law_model_here"] spElders := by
  refine T.fLawElders.ok scLawElders (fun vs H Q E h => ?_) (fun cdv A outer s H vs Q E hr h => ?_)
  · obtain ⟨f, F, S, ws, rfl, _⟩ := h
    rfl
  · obtain ⟨f, F, S, ws, rfl, hf, M, G, hnx, nf, q⟩ := h
    refine ⟨_, PSs.nox (pss_cons (ps_set (i := 2) scLawElders.nd rfl (Or.inl rfl) (pe_lst pa_nil))
      (pss_cons (ps_set (i := 3) scLawElders.nd rfl (Or.inl rfl) (pe_callB (call_sortDI rfl) (by rfl) T.b_sorted (by decide +kernel) (pa_cons (pe_dget (hu_of hr) (pv 1) pe_str (fun _ _ => rfl)) pa_nil)))
      (pss_cons (ps_for PassesOwn.never rfl (pi_range1 (by rfl) T.b_range (pa_cons (pe_ix ix_list (pe_lst (pa_cons pe_int (pa_cons pe_int (pa_cons pe_int (pa_cons pe_int (pa_cons pe_int (pa_cons pe_int (pa_cons pe_int (pa_cons pe_int pa_nil))))))))) (pcall T.dLawTake (ok_take T) hr pass0 (pa_cons (pv 0) (pa_cons pe_int pa_nil))) (fun _ _ => rfl)) pa_nil)) (pg_name (i := 4) scLawElders.nd rfl (Or.inl rfl))
        (pss_one (ps_if (pt_neNil hr.units (pv 3))
          (pss_cons (ps_set (i := 5) scLawElders.nd rfl (Or.inl rfl) (pe_ix ix_list (pe_lst (pa_cons (pe_op op_sub (pe_callB call_len_seq (by rfl) T.b_len PySem.boot_len (pa_cons (pv 3) pa_nil)) pe_int) (pa_cons (pcall T.dLawTake (ok_take T) hr pass0 (pa_cons (pv 0) (pa_cons (pe_callB call_len_seq (by rfl) T.b_len PySem.boot_len (pa_cons (pv 3) pa_nil)) pa_nil))) pa_nil)))
              (pcall T.dLawTake (ok_take T) hr pass0 (pa_cons (pv 0) (pa_cons pe_int pa_nil))) (fun _ _ => rfl)))
          (pss_one (ps_if (pt_cmpR op_notInI (pe_ix ix_list (pv 3) (pv 5) (fun _ _ => rfl)) (pv 2) rfl)
            (pss_one (ps_expr (pe_bm PySem.F.plainAttrs_list PySem.F.slot_list_append PySem.F.type_list_append mt_append (pv 2) (pa_cons (pe_ix ix_list (pv 3) (pv 5) (fun _ _ => rfl)) pa_nil)))) pss_nil))) pss_nil)))
      (pss_one (ps_ret (pe_callTy call_tuple_of (by rfl) T.b_tuple (by decide +kernel) (pa_cons (pv 2) pa_nil))))))), ?_⟩
    have len0 := G.len
    refine ⟨by show 0 ≤ sizeLine; omega, fun l nl => ?_⟩
    have s1 : Same H (upd H l (.lst [])) := Same.new nl
    have hl1 : (upd H l (.lst [])) l = some (.lst (([] : List Int).map V.int)) := upd_same
    generalize upd H l (.lst []) = H1 at s1 hl1
    have M1 := M.same s1
    refine ⟨_, rfl, F.m, .ref F.ids, rfl, by rw [← mo_makes]; exact DGet.k (k := .inr "makes") M1.obj, F.ids, _, _, rfl, .inl M1.ids, idK_keys, fun ys t hp hs nt => ?_⟩
    have eys : ys = S.nums := List.Perm.eq_of_pairwise (le := fun a b : Int => a ≤ b) (fun a b _ _ x y => Int.le_antisymm x y) hs (G.nums_rise.imp Int.le_of_lt) hp
    rw [eys]
    have s2 : Same H1 (upd H1 t (.lst (S.nums.map V.int))) := Same.new nt
    have ht2 : (upd H1 t (.lst (S.nums.map V.int))) t = some (.lst (S.nums.map V.int)) := upd_same
    have l_t : l ≠ t := ne_of_none hl1 nt
    generalize upd H1 t (.lst (S.nums.map V.int)) = H2 at s2 ht2
    refine ⟨by show 8 ≤ sizeLine; decide, fun p8 np8 => ?_⟩
    let L8 : List Int := [0, 1, 1, 1, 2, 2, 3, 1]
    have s3 : Same H2 (upd H2 p8 (.lst (L8.map V.int))) := Same.new np8
    have hp3 : (upd H2 p8 (.lst (L8.map V.int))) p8 = some (.lst (L8.map V.int)) := upd_same
    have s03 := (s1.trans s2).trans s3
    obtain ⟨x, b, hx⟩ := hf.same s03
    have f_l : f ≠ l := by
      obtain ⟨x, b, hx⟩ := hf
      exact ne_of_none hx nl
    have f_t : f ≠ t := by
      obtain ⟨x, b, hx⟩ := hf.same s1
      exact ne_of_none hx nt
    have f_8 : f ≠ p8 := by
      obtain ⟨x, b, hx⟩ := hf.same (s1.trans s2)
      exact ne_of_none hx np8
    refine ⟨_, rfl, f, x, b, 8, rfl, hx, by omega, by omega, fun r y r0 r1 => ?_⟩
    have k4 : Kp [f] (upd H2 p8 (.lst (L8.map V.int))) (upd (upd H2 p8 (.lst (L8.map V.int))) f (.lst [.int y, .bl b])) := FeedAt.put hx
    obtain ⟨n, rfl, hn⟩ := int_nat (n := 8) r0 r1
    have hk : L8[n]? = some (L8[n]'hn) := List.getElem?_eq_getElem hn
    have hmany : ∀ z ∈ L8, 0 ≤ z ∧ z ≤ 3 := by decide
    obtain ⟨z0, z3⟩ := hmany _ (List.getElem_mem hn)
    refine ⟨p8, _, _, .int (L8[n]'hn), rfl, rfl, SqL.of (k4.at hp3 (by simpa using f_8.symm)), atI_nat (j := n) (by rw [List.getElem?_map, hk]; rfl), ?_⟩
    generalize hmd : L8[n]'hn = many at z0 z3
    let H4 : Hp := upd (upd H2 p8 (.lst (L8.map V.int))) f (.lst [.int y, .bl b])
    have k04 : Kp [f] H H4 := (Kp.same s03).trans k4
    have hl4 : H4 l = some (.lst (([] : List Int).map V.int)) := k4.at (s3 _ _ (s2 _ _ hl1)) (by simpa using f_l.symm)
    have ht4 : H4 t = some (.lst (S.nums.map V.int)) := k4.at (s3 _ _ ht2) (by simpa using f_t.symm)
    refine ⟨many, rfl, by omega, by omega, for_range (lo := 0) (n := many.toNat) (fun i σ Hc => ∃ (el : List Int) (x4 x5 : Option V), σ = [some (.ref f), some (.ref F.m), some (.ref l), some (.ref t), x4, x5] ∧ Kp [f] H Hc ∧ FeedAt Hc f ∧ Hc l = some (.lst (el.map V.int)) ∧ Hc t = some (.lst (S.nums.map V.int)) ∧ el.length ≤ i ∧ ∀ k ∈ el, k ∈ S.nums)
      ⟨[], none, none, rfl, k04, ⟨y, b, upd_same⟩, hl4, ht4, Nat.le_refl _, fun k hk => by cases hk⟩ ?_ ?_⟩
    · rintro i σ Hc hi ⟨el, x4, x5, rfl, kc, hfc, hlc, htc, hel, hem⟩
      refine ⟨t, _, rfl, htc, fun H5 s5 => ?_⟩
      have hl5 := s5 _ _ hlc
      have ht5 := s5 _ _ htc
      have kc5 := kc.trans (.same s5)
      obtain ⟨x6, b6, hf6⟩ := hfc.same s5
      by_cases hne : S.nums = []
      · refine iteN (by rw [hne]; rfl) ⟨el, _, _, rfl, kc5, ⟨x6, b6, hf6⟩, hl5, ht5, by omega, hem⟩
      · refine iteC ?_ ?_
        · cases hnm : S.nums with
          | nil => exact absurd hnm hne
          | cons a r => rfl
        have npos : 0 < S.nums.length := List.length_pos_iff.mpr hne
        have nl2 := nums_len (S := S)
        refine ⟨_, rfl, _, _, rfl, .inl (SqL.of ht5), _, _, rfl, rfl, ?_⟩
        refine ⟨_, rfl, _, rfl, _, _, rfl, .inl (SqL.of ht5), f, x6, b6, _, rfl, hf6, by rw [List.length_map]; omega, by rw [List.length_map]; omega, fun r7 y7 r70 r71 => ?_⟩
        have k7 : Kp [f] H5 (upd H5 f (.lst [.int y7, .bl b6])) := FeedAt.put hf6
        have hf7 : (upd H5 f (.lst [.int y7, .bl b6])) f = some (.lst [.int y7, .bl b6]) := upd_same
        have hl7 := k7.at hl5 (by simpa using f_l.symm)
        have ht7 := k7.at ht5 (by simpa using f_t.symm)
        generalize upd H5 f (.lst [.int y7, .bl b6]) = H7 at k7 hf7 hl7 ht7
        refine ⟨by show 2 ≤ sizeLine; decide, fun p2 np2 => ?_⟩
        let O2 : HO := .lst [.int (((S.nums.map V.int).length : Int) - 1), .int r7]
        have s8 : Same H7 (upd H7 p2 O2) := Same.new np2
        have hp8 : (upd H7 p2 O2) p2 = some O2 := upd_same
        have f_2 : f ≠ p2 := ne_of_none hf7 np2
        refine ⟨_, rfl, f, y7, b6, 2, rfl, s8 _ _ hf7, by omega, by omega, fun r9 y9 r90 r91 => ?_⟩
        have k9 : Kp [f] (upd H7 p2 O2) (upd (upd H7 p2 O2) f (.lst [.int y9, .bl b6])) := FeedAt.put (s8 _ _ hf7)
        have hf9 : (upd (upd H7 p2 O2) f (.lst [.int y9, .bl b6])) f = some (.lst [.int y9, .bl b6]) := upd_same
        have hp9 := k9.at hp8 (by simpa using f_2.symm)
        have hl9 := k9.at (s8 _ _ hl7) (by simpa using f_l.symm)
        have ht9 := k9.at (s8 _ _ ht7) (by simpa using f_t.symm)
        obtain ⟨at_, hat, ha0, ha1⟩ : ∃ at_ : Int, atI [V.int (((S.nums.map V.int).length : Int) - 1), V.int r7] r9 = some (.int at_) ∧ 0 ≤ at_ ∧ at_ < S.nums.length := by
          rw [List.length_map] at r71 ⊢
          have : r9 = 0 ∨ r9 = 1 := by omega
          rcases this with rfl | rfl
          · exact ⟨_, atI_nat (j := 0) rfl, by omega, by omega⟩
          · exact ⟨r7, atI_nat (j := 1) rfl, r70, r71⟩
        have k59 : Kp [f] H5 (upd (upd H7 p2 O2) f (.lst [.int y9, .bl b6])) := (k7.trans (.same s8)).trans k9
        refine ⟨p2, _, _, .int at_, rfl, rfl, SqL.of hp9, hat, ?_⟩
        obtain ⟨j, rfl, hj⟩ := int_nat ha0 ha1
        have hkj : S.nums[j]? = some (S.nums[j]'hj) := List.getElem?_eq_getElem hj
        have hat2 : atI (S.nums.map V.int) (j : Int) = some (.int (S.nums[j]'hj)) := atI_nat (j := j) (by rw [List.getElem?_map, hkj]; rfl)
        refine ⟨_, rfl, _, rfl, t, _, _, _, rfl, rfl, SqL.of ht9, hat2, _, rfl, _, l, el, rfl, rfl, SqL.of hl9, _, rfl, ite2 (fun _ => ?_) (fun _ => ?_)⟩
        · refine ⟨_, rfl, .inl ⟨rfl, _, SqL.of hl9⟩, _, rfl, _, rfl, t, _, _, _, rfl, rfl, SqL.of ht9, hat2, l, _, _, rfl, rfl, hl9, by rw [List.length_map, sizeLine_eq]; omega, ?_⟩
          have kL : Kp [l] (upd (upd H7 p2 O2) f (.lst [.int y9, .bl b6])) (upd (upd (upd H7 p2 O2) f (.lst [.int y9, .bl b6])) l (.lst (el.map V.int ++ [.int (S.nums[j]'hj)]))) := Kp.put hl9 (fun z => z) (by simp)
          refine ⟨el ++ [S.nums[j]'hj], _, _, rfl, Kp.put0 (kc5.trans k59) nl, ⟨y9, b6, kL.at hf9 (by simpa using f_l)⟩, by rw [List.map_append]; exact upd_same, kL.at ht9 (by simpa using l_t.symm), by rw [List.length_append]; show el.length + 1 ≤ i + 1; omega, ?_⟩
          intro k hk
          rcases List.mem_append.mp hk with hk | hk
          · exact hem k hk
          · rw [List.mem_singleton.mp hk]
            exact List.getElem_mem hj
        · exact ⟨el, _, _, rfl, kc5.trans k59, ⟨y9, b6, hf9⟩, hl9, ht9, by omega, hem⟩
    · rintro σ Hc ⟨el, x4, x5, rfl, kc, hfc, hlc, htc, hel, hem⟩
      refine ⟨_, rfl, l, _, rfl, .inl ⟨SqL.of hlc, fun u nu => ?_⟩⟩
      exact q el u _ hem (by omega) (kc.trans (.new nu)) (hfc.same (Same.new nu)) upd_same
end
end Mw

/-! _law_line, _law_alike. -/
namespace Mw
open PySem PySem.Spec PyProof.Rows L2
section
variable {P : Program} {w : World} {K : PySem.W.Frag} {mg : Str → Option Value} {base : Heap}
def spLineL (K : PySem.W.Frag) : Sp := fun vs H Q _ => ∃ F S ws st a, vs = [.ref F.m, .ref a] ∧ SqL K H a (st.map V.int) ∧ ModAt H F S ∧ Good ws S ∧ S.next < 1000000 ∧ (∀ x ∈ st, x ∈ S.nums) ∧ st.length < 2000 ∧
  ∀ H' p, Same H H' → H p = none → H' p = some (.lst ((line S st).map V.int)) → Q (.ref p) H'
theorem ok_lineL (T : Tx K mg) : OkG P w K mg base CX0 1 "_law_line" ["_law_model_here", "_law_numbers"] (spLineL K) := by
  refine T.fLawLine.ok scLawLine (fun vs H Q E h => ?_) (fun cdv A outer s H vs Q E hr h => ?_)
  · obtain ⟨F, S, ws, st, a, rfl, _⟩ := h
    rfl
  · obtain ⟨F, S, ws, st, a, rfl, ha, M, G, hnx, hst, hsl, q⟩ := h
    refine ⟨_, PSs.nox (pss_cons (ps_set (i := 2) scLawLine.nd rfl (Or.inl rfl) (pe_lst pa_nil))
      (pss_cons (ps_set (i := 3) scLawLine.nd rfl (Or.inl rfl) (pe_callTy call_list_of (by rfl) T.b_list (by decide +kernel) (pa_cons (pv 1) pa_nil)))
      (pss_cons (ps_while PassesOwn.never (pt_neNil hr.units (pv 3)) (pss_cons (ps_set (i := 4) scLawLine.nd rfl (Or.inl rfl) (pe_bm0 PySem.F.plainAttrs_list PySem.F.slot_list_pop PySem.F.type_list_pop mt_pop (pv 3)))
        (pss_one (ps_if (pt_cmpR op_notInI (pv 4) (pv 2) rfl) (pss_cons (ps_expr (pe_bm PySem.F.plainAttrs_list PySem.F.slot_list_append PySem.F.type_list_append mt_append (pv 2) (pa_cons (pv 4) pa_nil)))
          (pss_one (ps_expr (pe_bm PySem.F.plainAttrs_list PySem.F.slot_list_extend PySem.F.type_list_extend mt_extT (pv 3) (pa_cons (pe_dget (hu_of hr) (pe_dget (hu_of hr) (pv 0) pe_str (fun _ _ => rfl)) (pv 4) (fun _ _ => rfl)) pa_nil))))) pss_nil))))
      (pss_one (ps_ret (pe_callB cr_sortedI (by rfl) T.b_sorted (by decide +kernel) (pa_cons (pv 2) pa_nil))))))), ?_⟩
    have len0 := G.len
    refine ⟨by show 0 ≤ sizeLine; omega, fun d hd => ?_⟩
    have s1 : Same H (upd H d (.lst [])) := Same.new hd
    refine ⟨_, rfl, a, _, rfl, .inl (Same.sq s1 ha), fun l hl0 => ?_⟩
    have nl : H l = none := Same.no s1 hl0
    have d_l : d ≠ l := ne_of_none upd_same hl0
    have mul := mu_le G []
    refine while_m (fun m σ Hc => ∃ (found waiting : List Int) (x : Option V), σ = [some (.ref F.m), some (.ref a), some (.ref d), some (.ref l), x] ∧ Same H Hc ∧ Hc d = some (.lst (found.map V.int)) ∧ Hc l = some (.lst (waiting.map V.int)) ∧ Dfs S st found waiting ∧ m = mu S.ents found + waiting.length ∧ m ≤ 4 * S.ents.length + 2000)
      ⟨_, [], st, none, rfl, Same.put0 (Same.put0 (Same.refl _) hd) nl, (upd_ne d_l).trans upd_same, upd_same, Dfs.start hst, rfl, by omega⟩ ?_ tNeNil_mono
    rintro m σ Hc ⟨found, waiting, x, rfl, s, hd1, hl1, df, rfl, hm⟩
    refine ⟨l, _, rfl, hl1, fun H2 s2 => ?_⟩
    by_cases hw : waiting = []
    · subst hw
      refine iteF ?_
      refine ⟨_, rfl, d, found, rfl, SqL.of (s2 _ _ hd1), fun ys p hp hs np => ?_⟩
      rw [line_sorted G hp hs (df.done G)]
      have np0 : H p = none := Same.no (s.trans s2) np
      exact q _ p (Same.put0 (s.trans s2) np0) np0 upd_same
    · obtain ⟨v, y, rfl⟩ := pop_last hw
      have hne : (!(List.map V.int (v ++ [y])).isEmpty) = true := by simp
      refine iteC hne ?_
      have hl2 := s2 _ _ hl1
      have hd2 := s2 _ _ hd1
      refine ⟨_, rfl, .inl ⟨rfl, _, SqL.of hl2⟩, l, _, .int y, rfl, rfl, hl2, by simp, ?_⟩
      have el : (List.map V.int (v ++ [y])).dropLast = v.map V.int := by simp
      rw [el]
      have s3 : Same H (upd H2 l (.lst (v.map V.int))) := Same.put0 (s.trans s2) nl
      have hd3 : (upd H2 l (.lst (v.map V.int))) d = some (.lst (found.map V.int)) := (upd_ne d_l).trans hd2
      have hl3 : (upd H2 l (.lst (v.map V.int))) l = some (.lst (v.map V.int)) := upd_same
      refine ⟨_, rfl, _, rfl, y, d, found, rfl, rfl, SqL.of hd3, _, rfl, ?_⟩
      rw [List.length_append, List.length_singleton] at hm ⊢
      by_cases hy : y ∈ found
      · rw [decide_eq_true hy]
        exact iteF ⟨_, by omega, found, v, _, rfl, s3, hd3, hl3, df.skip hy, rfl, by omega⟩
      · rw [decide_eq_false hy]
        have hyn : y ∈ S.nums := df.m y (.inr (List.mem_append_right _ (List.mem_singleton.mpr rfl)))
        obtain ⟨f, hf, rfl⟩ := Wo.mem_nums.mp hyn
        have fl := nodup_len df.nd fun x hx => df.m x (.inl hx)
        refine iteT ⟨_, rfl, .inl ⟨rfl, _, SqL.of hd3⟩, _, rfl, d, _, _, rfl, rfl, hd3, by rw [List.length_map, sizeLine_eq]; omega, ?_⟩
        have emp : found.map V.int ++ [V.int f.n] = (found ++ [f.n]).map V.int := by rw [List.map_append]; rfl
        rw [emp]
        have s4 : Same H (upd (upd H2 l (.lst (v.map V.int))) d (.lst ((found ++ [f.n]).map V.int))) := Same.put0 s3 hd
        have M4 := M.same s4
        have hl4 : (upd (upd H2 l (.lst (v.map V.int))) d (.lst ((found ++ [f.n]).map V.int))) l = some (.lst (v.map V.int)) := (upd_ne d_l.symm).trans hl3
        have muv := mu_visit hf hy
        have hfew := G.few f hf
        obtain ⟨kv1, g1, _, g1e⟩ := M4.el
        obtain ⟨b, hb1, hb2⟩ := g1e f hf
        refine ⟨_, rfl, .inl ⟨rfl, _, SqL.of hl4⟩, _, rfl, F.m, .ref F.el, rfl, by rw [← mo_elders]; exact DGet.k (k := .inr "elders") M4.obj, _, rfl, F.el, .ref b, rfl, by rw [← hb1]; exact DGet.k (k := .inl f.n) g1, ?_⟩
        refine ⟨l, b, _, _, rfl, rfl, hl4, hb2, by rw [List.length_map, List.length_map, sizeLine_eq]; omega, ?_⟩
        rw [← List.map_append]
        refine ⟨_, ?_, found ++ [f.n], v ++ f.el, _, rfl, Same.put0 s4 nl, (upd_ne d_l).trans upd_same, upd_same, df.visit G hf hy, rfl, ?_⟩
        · rw [List.length_append]
          omega
        · rw [List.length_append]
          omega
/-- ids to numbers -/
def backK (es : List Ent) : List (Key × V) := es.map fun e => (Sum.inl e.id, V.int e.n)
theorem backK_get {es : List Ent} {i : Int} : valV (backK es) (.inl i) = (es.find? fun e => decide (e.id = i)).map fun e => V.int e.n := by
  unfold backK
  induction es with
  | nil => rfl
  | cons p r ih =>
    rw [List.map_cons, List.find?_cons]
    by_cases h : p.id = i
    · rw [valV_pos (by rw [h]), decide_eq_true h]
      rfl
    · rw [valV_neg (by intro z; exact h (Sum.inl.inj z)), decide_eq_false h]
      exact ih
theorem id_new {ws : List NestedKey} {S : Wo} (G : Good ws S) {i : Nat} {e : Ent} (h : S.ents[i]? = some e) : (S.ents.take i).find? (fun f => decide (f.id = e.id)) = none := by
  refine List.find?_eq_none.mpr fun f hf z => ?_
  have z := of_decide_eq_true z
  obtain ⟨hi, rfl⟩ := List.getElem?_eq_some_iff.mp h
  have := G.ids f (List.mem_of_mem_take hf) _ (List.getElem_mem hi) z
  obtain ⟨j, hj, ej⟩ := List.mem_take_iff_getElem.mp hf
  have := List.pairwise_iff_getElem.mp G.rise j i (by omega) hi (by omega)
  rw [ej] at this
  rw [‹f = _›] at this
  omega
def spAlikeL : Sp := fun vs H Q _ => ∃ F S F' U ws, vs = [.ref F.m, .ref F'.m] ∧ ModAt H F S ∧ ModAt H F' U ∧ Good ws S ∧ Good ws U ∧ S.next < 1000000 ∧ U.next < 1000000 ∧
  ∀ H' p, Same H H' → H p = none → H' p = some (.dK (alK (al S U))) → Q (.ref p) H'
theorem ok_alikeL (T : Tx K mg) : OkG P w K mg base CX0 1 "_law_alike" ["_law_one", "_law_other"] spAlikeL := by
  refine T.fLawAlike.ok scLawAlike (fun vs H Q E h => ?_) (fun cdv A outer s H vs Q E hr h => ?_)
  · obtain ⟨F, S, F', U, ws, rfl, _⟩ := h
    rfl
  · obtain ⟨F, S, F', U, ws, rfl, M, M', G, G', hnx, hnx', q⟩ := h
    refine ⟨_, PSs.nox (pss_cons (ps_set (i := 2) scLawAlike.nd rfl (Or.inl rfl) pe_dnewK)
      (pss_cons (ps_lock (ps_for PassesOwn.never rfl (pi_items (pe_dget (hu_of hr) (pv 1) pe_str (fun _ _ => rfl))) (pg_tup rfl (pgs_cons (pg_name (i := 3) scLawAlike.nd rfl (Or.inl rfl)) (pgs_cons (pg_name (i := 4) scLawAlike.nd rfl (Or.inl rfl)) pgs_nil)))
        (pss_one (ps_dput (hu_of hr) (pv 2) (pv 4) (pv 3) rfl))))
      (pss_cons (ps_set (i := 5) scLawAlike.nd rfl (Or.inl rfl) pe_dnewK)
      (pss_cons (ps_lock (ps_for PassesOwn.never rfl (pi_items (pe_dget (hu_of hr) (pv 0) pe_str (fun _ _ => rfl))) (pg_tup rfl (pgs_cons (pg_name (i := 3) scLawAlike.nd rfl (Or.inl rfl)) (pgs_cons (pg_name (i := 4) scLawAlike.nd rfl (Or.inl rfl)) pgs_nil)))
        (pss_one (ps_if (pt_cmp (pc_din (hu_of hr) (pv 4) (pv 2)) rfl) (pss_one (ps_dput (hu_of hr) (pv 5) (pv 3) (pe_dget (hu_of hr) (pv 2) (pv 4) (fun _ _ => rfl)) rfl)) pss_nil))))
      (pss_one (ps_ret (pv 5))))))), ?_⟩
    have len0 := G.len
    have len1 := G'.len
    intro d nd
    have s1 : Same H (upd H d (.dK [])) := Same.new nd
    have hd1 : (upd H d (.dK [])) d = some (.dK (backK [])) := upd_same
    generalize upd H d (.dK []) = H1 at s1 hd1
    have M1 := M'.same s1
    refine ⟨F'.ids, _, M1.ids, trivial, fun od => ?_⟩
    have m_ids := (F'.ne M'.nd).1.1
    have hob : (upd H1 F'.ids (.frz od (.dK (idK U.ents)))) F'.m = some (.dK (modelK F' U.next)) := (upd_ne m_ids).trans M1.obj
    have d_ids : d ≠ F'.ids := fun z => by rw [z, M'.ids] at nd; cases nd
    refine ⟨_, rfl, F'.m, .ref F'.ids, rfl, by rw [← mo_makes]; exact DGet.k (k := .inr "makes") hob, F'.ids, od, _, rfl, upd_same, for_wk (S := [d]) (Wk.items upd_same) (fun i σ Hc => Kp [d] (upd H1 F'.ids (.frz od (.dK (idK U.ents)))) Hc ∧ ∃ x3 x4, σ = [some (.ref F.m), some (.ref F'.m), some (.ref d), x3, x4, none] ∧ Hc d = some (.dK (backK (U.ents.take i))))
      ⟨Kp.refl, none, none, rfl, (upd_ne d_ids).trans hd1⟩ (fun i σ Hc h => h.1) ?_ ?_⟩
    · rintro i x σ Hc Hc' hi ⟨kc, x3, x4, rfl, hdc⟩ sc ⟨tt, ky, z, rfl, htt, hkz⟩
      have hi : i < U.ents.length := by unfold idK at hi; rwa [List.length_map] at hi
      unfold idK at hkz
      rw [List.getElem?_map] at hkz
      obtain ⟨e, he, ee⟩ := Option.map_eq_some_iff.mp hkz
      cases ee
      have hdc' := sc _ _ hdc
      have bl : (backK (U.ents.take i)).length ≤ U.ents.length := by
        unfold backK
        rw [List.length_map]
        exact (List.take_sublist _ _).length_le
      refine ⟨_, _, rfl, SqT.of htt, rfl, _, _, rfl, _, _, rfl, rfl, _, rfl, _, rfl, _, rfl, d, _, rfl, DPut.k (k := .inl e.id) hdc' (by rw [sizeLine_eq]; omega), ?_⟩
      have hn : valV (backK (U.ents.take i)) (.inl e.id) = none := by rw [backK_get, id_new G' he]; rfl
      rw [putK_new _ hn]
      have hdL : (upd H1 F'.ids (.frz od (.dK (idK U.ents)))) d = some (.dK (backK [])) := (upd_ne d_ids).trans hd1
      refine ⟨Kp.putS (kc.trans (.same sc)) (by simp) hdL (fun z => z), _, _, rfl, ?_⟩
      rw [List.take_add_one, he]
      unfold backK
      rw [List.map_append]
      exact upd_same
    · rintro σ Hc ⟨kc, x3, x4, rfl, hdc⟩
      rw [show (idK U.ents).length = U.ents.length from List.length_map _, List.take_length] at hdc
      have kU : Kp [d] H1 (upd Hc F'.ids (.dK (idK U.ents))) := unlockK M1.ids kc
      refine ⟨kc.at upd_same (by simpa using d_ids.symm), ?_⟩
      have hd2 : (upd Hc F'.ids (.dK (idK U.ents))) d = some (.dK (backK U.ents)) := (upd_ne d_ids).trans hdc
      have sH2 : Same H (upd Hc F'.ids (.dK (idK U.ents))) := (Kp.off_trans (S := []) (.same s1) nd kU).to_same
      generalize upd Hc F'.ids (.dK (idK U.ents)) = H2 at hd2 sH2
      intro g ng
      have s3 : Same H2 (upd H2 g (.dK [])) := Same.new ng
      have hg3 : (upd H2 g (.dK [])) g = some (.dK (alK [])) := upd_same
      have ngH : H g = none := Same.no sH2 ng
      have d_g : d ≠ g := ne_of_none hd2 ng
      generalize upd H2 g (.dK []) = H3 at s3 hg3
      have hd3 := s3 _ _ hd2
      have M3 := M.same (sH2.trans s3)
      have hm_ids := (F.ne M.nd).1.1
      refine ⟨F.ids, _, M3.ids, trivial, fun od2 => ?_⟩
      have hob3 : (upd H3 F.ids (.frz od2 (.dK (idK S.ents)))) F.m = some (.dK (modelK F S.next)) := (upd_ne hm_ids).trans M3.obj
      have d_ids2 : d ≠ F.ids := fun z => by rw [z, M.ids] at nd; cases nd
      have g_ids2 : g ≠ F.ids := fun z => by rw [z, M.ids] at ngH; cases ngH
      have hgL : (upd H3 F.ids (.frz od2 (.dK (idK S.ents)))) g = some (.dK (alK [])) := (upd_ne g_ids2).trans hg3
      have hdL : (upd H3 F.ids (.frz od2 (.dK (idK S.ents)))) d = some (.dK (backK U.ents)) := (upd_ne d_ids2).trans hd3
      refine ⟨_, rfl, F.m, .ref F.ids, rfl, by rw [← mo_makes]; exact DGet.k (k := .inr "makes") hob3, F.ids, od2, _, rfl, upd_same, for_wk (S := [g]) (Wk.items upd_same) (fun i σ Hc => Kp [g] (upd H3 F.ids (.frz od2 (.dK (idK S.ents)))) Hc ∧ ∃ x3 x4, σ = [some (.ref F.m), some (.ref F'.m), some (.ref d), x3, x4, some (.ref g)] ∧ Hc g = some (.dK (alK (alE U (S.ents.take i)))))
        ⟨Kp.refl, _, _, rfl, hgL⟩ (fun i σ Hc h => h.1) ?_ ?_⟩
      · rintro i x σ Hc Hc' hi ⟨kc, x3, x4, rfl, hgc⟩ sc ⟨tt, ky, z, rfl, htt, hkz⟩
        unfold idK at hkz
        rw [List.getElem?_map] at hkz
        obtain ⟨e, he, ee⟩ := Option.map_eq_some_iff.mp hkz
        cases ee
        have hgc' := sc _ _ hgc
        have kc' := kc.trans (.same sc)
        have hdc' : Hc' d = some (.dK (backK U.ents)) := kc'.at hdL (by simpa using d_g)
        refine ⟨_, _, rfl, SqT.of htt, rfl, _, _, rfl, _, _, rfl, rfl, _, rfl, _, rfl, d, _, rfl, DGet.k (k := .inl e.id) hdc', _, rfl, ?_⟩
        have hbk := backK_get (es := U.ents) (i := e.id)
        have eta := alE_take (T := U) he
        cases hfi : U.ents.find? (fun f => decide (f.id = e.id)) with
        | none =>
          rw [hfi] at hbk eta
          rw [hbk]
          refine iteF ⟨kc', _, _, rfl, ?_⟩
          rw [eta]
          simpa using hgc'
        | some f =>
          rw [hfi] at hbk eta
          have hn : valV (alK (alE U (S.ents.take i))) (.inl e.n) = none := by rw [alK_get, notyet G he]; rfl
          have al1 : (alK (alE U (S.ents.take i))).length ≤ S.ents.length := by
            unfold alK
            rw [List.length_map]
            exact Nat.le_trans alE_len (List.take_sublist _ _).length_le
          rw [hbk]
          refine iteT ⟨_, rfl, _, rfl, d, .int f.n, rfl, by rw [← show valV (backK U.ents) (.inl e.id) = some (.int f.n) from hbk]; exact DGet.k (k := .inl e.id) hdc', _, rfl, _, rfl, g, _, rfl, DPut.k (k := .inl e.n) hgc' (by rw [sizeLine_eq]; omega), ?_⟩
          rw [putK_new _ hn]
          refine ⟨Kp.putS kc' (by simp) hgL (fun z => z), _, _, rfl, ?_⟩
          rw [eta]
          unfold alK
          rw [List.map_append]
          exact upd_same
      · rintro σ Hc ⟨kc, x3, x4, rfl, hgc⟩
        rw [show (idK S.ents).length = S.ents.length from List.length_map _, List.take_length] at hgc
        have kU : Kp [g] H3 (upd Hc F.ids (.dK (idK S.ents))) := unlockK M3.ids kc
        refine ⟨kc.at upd_same (by simpa using g_ids2.symm), ?_⟩
        exact ⟨_, rfl, q _ g (Kp.off_trans (S := []) (.same (sH2.trans s3)) ngH kU).to_same ngH ((upd_ne g_ids2).trans hgc)⟩
end
end Mw

/-! _law_lacking, _law_step. -/
namespace Mw
open PySem PySem.Spec PyProof.Rows L2
section
variable {P : Program} {w : World} {K : PySem.W.Frag} {mg : Str → Option Value} {base : Heap}
def spLackingL : Sp := fun vs H Q _ => ∃ F S F' U ws x n, vs = [.ref F.m, .ref F'.m, .str x] ∧ ModAt H F S ∧ ModAt H F' U ∧ Good ws S ∧ Good ws U ∧ S.next < 1000000 ∧ U.next < 1000000 ∧ getN S.names x = some n ∧
  ∀ H' p, Same H H' → H p = none → H' p = some (.lst ((lack S U [n]).map V.int)) → Q (.ref p) H'
theorem ok_lackingL (T : Tx K mg) : OkG P w K mg base CX0 2 "_law_lacking" ["_law_here", "_law_there", "_law_name"] spLackingL := by
  refine T.fLawLacking.ok scLawLacking (fun vs H Q E h => ?_) (fun cdv A outer s H vs Q E hr h => ?_)
  · obtain ⟨F, S, F', U, ws, x, n, rfl, _⟩ := h
    rfl
  · obtain ⟨F, S, F', U, ws, x, n, rfl, M, M', G, G', hnx, hnx', hn, q⟩ := h
    refine ⟨_, PSs.nox (pss_cons (ps_set (i := 3) scLawLacking.nd rfl (Or.inr rfl) (pcall T.dLawAlike (ok_alikeL T) hr pass0 (pa_cons (pv 0) (pa_cons (pv 1) pa_nil))))
      (pss_one (ps_ret (pe_lc (own := [("_law_number", 4)]) (g := gName 4) (tt := tB (tDNotIn (tVar 4) (tVar 3))) (te := tVar 4) rfl scLawLacking.nd
          (pi_list (pcall T.dLawLine (ok_lineL T) hr pass0 (pa_cons (pv 0) (pa_cons (pe_lst (pa_cons (pe_dget (hu_of hr) (pe_dget (hu_of hr) (pv 0) pe_str (fun _ _ => rfl)) (pv 2) (fun _ _ => rfl)) pa_nil)) pa_nil)))) (blkOk_by (N := nLawLacking) (sc := defScope sLawLacking) (by decide +kernel)) (fun _ _ _ _ _ => pg_name (i := 4) scLawLacking.nd rfl (Or.inl rfl))
        (fun _ _ _ _ _ => pts_one (pt_cmp (pc_dnotin (hu_of hr) (pv 4) (pv 3)) rfl)) (fun _ _ _ _ _ => pv 4))))), ?_⟩
    have len0 := G.len
    refine ⟨_, rfl, _, rfl, F, S, F', U, ws, rfl, M, M', G, G', hnx, hnx', fun H1 d s1 nd hd => ?_⟩
    have M1 := M.same s1
    have hv : valV (calledK S.names) (.inr x) = some (.int n) := by rw [calledK_get, hn]; rfl
    refine ⟨_, rfl, _, rfl, F.m, .ref F.nm, rfl, by rw [← mo_names]; exact DGet.k (k := .inr "names") M1.obj, _, rfl, F.nm, .int n, rfl, by rw [← hv]; exact DGet.k (k := .inr x) M1.nm, by show 1 ≤ sizeLine; decide, fun l nl => ?_⟩
    have s2 : Same H1 (upd H1 l (.lst [.int n])) := Same.new nl
    have hnn : n ∈ S.nums := (G.nm _ (getN_mem hn)).2
    refine ⟨F, S, ws, [n], l, rfl, SqL.of upd_same, M1.same s2, G, hnx, by simpa using hnn, by show 1 < 2000; decide, fun H3 p s3 np hp => ?_⟩
    have hd3 := s3 _ _ (s2 _ _ hd)
    have s03 : Same H H3 := (s1.trans s2).trans s3
    refine ⟨_, rfl, ⟨_, SqL.of hp⟩, fun D nD => lc_same (Wk.list (SqL.of hp) (by simp)) nD (fun i acc => acc = (((line S [n]).take i).filter fun m => (alGet (al S U) m).isNone).map V.int) rfl ?_ ?_⟩
    · intro i v acc Hc hi hla hD sc r hv
      rw [List.getElem?_map] at hv
      obtain ⟨m, hm, rfl⟩ := Option.map_eq_some_iff.mp hv
      have ll : (line S [n]).length ≤ S.ents.length := nodup_len (line_nodup G) fun y hy => (line_mem.mp hy).1
      refine ⟨rfl, _, rfl, _, rfl, d, _, rfl, DGet.k (k := Sum.inl m) (sc _ _ hd3), _, rfl, ?_⟩
      rw [alK_some]
      cases hg : alGet (al S U) m with
      | none =>
        refine iteT ⟨_, rfl, LcS.put nD sc hD hla (by rw [List.length_map] at hi; rw [sizeLine_eq]; omega) ?_⟩
        rw [r, List.take_add_one, hm, List.filter_append, List.map_append]
        simp [hg]
      | some z =>
        refine iteF (LcS.skip sc hD hla ?_)
        rw [r, List.take_add_one, hm, List.filter_append, List.map_append]
        simp [hg]
    · intro acc H4 s4 r hD
      rw [List.length_map, List.take_length] at r
      subst r
      exact q H4 D (s03.trans s4) (Same.no s03 nD) hD
def spStepL (P : Program) (w : World) : Sp := fun vs H Q _ => ∃ d ws F S F' U x n, vs = [.ref d, .ref F.m, .ref F'.m, .str x] ∧ WldAt P w H d ws ∧ ws.length < 1000000 ∧ ModAt H F S ∧ ModAt H F' U ∧ Good ws S ∧ Good ws U ∧ S.next < 1000000 ∧ U.next < 1000000 ∧ U.names.length < 60 ∧ getN S.names x = some n ∧
  (lack S U [n] = [] → ∀ m, alGet (al S U) n = some m → ∀ H', Kp F'.l H H' → ModAt H' F' (U.setName x m) → Q .non H') ∧
  (∀ e ∈ S.ents, ∀ r, lack S U [n] = e.n :: r → ∀ H', Kp (d :: F'.l) H H' → WldAt P w H' d ws → ModAt H' F' (U.put e.st (alMap (al S U) e.el) e.wd e.id e.ei).1 → Q (.int (U.put e.st (alMap (al S U) e.el) e.wd e.id e.ei).2) H')
theorem Good.wput (ws : List NestedKey) {S : Wo} (G : Good ws S) {e : Ent} (he : e ∈ S.ents) : wPut ws (worldK e) = ws ∧ ∀ i : Nat, ws[i]? = some (worldK e) → (i : Int) = e.id := by
  obtain ⟨h0, h1⟩ := G.wid e he
  refine ⟨if_pos (List.mem_of_getElem? h1), fun i hi => ?_⟩
  obtain ⟨a1, b1⟩ := List.getElem?_eq_some_iff.mp h1
  obtain ⟨a2, b2⟩ := List.getElem?_eq_some_iff.mp hi
  have := (List.getElem_inj G.wnd).mp (b1.trans b2.symm)
  omega
theorem lack_nil {ws : List NestedKey} {S U : Wo} (G : Good ws S) {n : Int} (hn : n ∈ S.nums) (h : lack S U [n] = []) : ∃ m, alGet (al S U) n = some m ∧ m ∈ U.nums := by
  cases z : alGet (al S U) n with
  | some m =>
    obtain ⟨e, _, f, hf, _, efm, _⟩ := al_some G z
    exact ⟨m, rfl, Wo.mem_nums.mpr ⟨f, hf, efm⟩⟩
  | none =>
    have : n ∈ lack S U [n] := List.mem_filter.mpr ⟨line_mem.mpr ⟨hn, .start (List.mem_singleton.mpr rfl)⟩, by rw [z]; rfl⟩
    rw [h] at this
    cases this
theorem ok_stepL (T : Tx K mg) : OkG P w K mg base CX0 3 "_law_step" ["_law_world", "_law_here", "_law_there", "_law_name"] (spStepL P w) := by
  refine T.fLawStep.ok scLawStep (fun vs H Q E h => ?_) (fun cdv A outer s H vs Q E hr h => ?_)
  · obtain ⟨d, ws, F, S, F', U, x, n, rfl, _⟩ := h
    rfl
  · obtain ⟨d, ws, F, S, F', U, x, n, rfl, W, hwl, M, M', G, G', hnx, hnx', hnm, hn, q1, q2⟩ := h
    have dg : ∀ {i : Nat} {s : Str}, True := fun {_ _} => trivial
    refine ⟨_, PSs.nox (pss_cons (ps_set (i := 4) scLawStep.nd rfl (Or.inr rfl) (pcall T.dLawAlike (ok_alikeL T) (hr.mono (by decide)) pass0 (pa_cons (pv 1) (pa_cons (pv 2) pa_nil))))
      (pss_cons (ps_set (i := 5) scLawStep.nd rfl (Or.inl rfl) (pcall T.dLawLacking (ok_lackingL T) hr pass0 (pa_cons (pv 1) (pa_cons (pv 2) (pa_cons (pv 3) pa_nil)))))
      (pss_cons (ps_if (pt_eqNil hr.units (pv 5))
        (pss_cons (ps_dput (hu_of hr) (pe_dget (hu_of hr) (pv 2) pe_str (fun _ _ => rfl)) (pv 3) (pe_dget (hu_of hr) (pv 4) (pe_dget (hu_of hr) (pe_dget (hu_of hr) (pv 1) pe_str (fun _ _ => rfl)) (pv 3) (fun _ _ => rfl)) (fun _ _ => rfl)) rfl)
        (pss_one (ps_ret pe_non))) pss_nil)
      (pss_cons (ps_set (i := 6) scLawStep.nd rfl (Or.inl rfl) (pe_callTy call_tuple_of (by rfl) T.b_tuple (by decide +kernel) (pa_cons
            (pe_lc (own := [("_law_elder", 7)]) (g := gName 7) (tt := tYes) rfl scLawStep.nd (pi_tup (pe_dget (hu_of hr) (pe_dget (hu_of hr) (pv 1) pe_str (fun _ _ => rfl)) (pe_ix ix_list (pv 5) pe_int (fun _ _ => rfl)) (fun _ _ => rfl))) (blkOk_by (N := nLawStep) (sc := defScope sLawStep) (by decide +kernel)) (fun _ _ _ _ _ => pg_name (i := 7) scLawStep.nd rfl (Or.inl rfl)) (fun _ _ _ _ _ => pts_nil)
              (fun _ _ _ _ _ => pe_dget (hu_of hr) (pv 4) (pv 7) (fun _ _ => rfl))) pa_nil)))
      (pss_cons (ps_asg (pe_dget (hu_of hr) (pe_dget (hu_of hr) (pv 1) pe_str (fun _ _ => rfl)) (pe_ix ix_list (pv 5) pe_int (fun _ _ => rfl)) (fun _ _ => rfl)) (pg_tup rfl (pgs_cons (pg_name (i := 8) scLawStep.nd rfl (Or.inl rfl)) (pgs_cons (pg_name (i := 9) scLawStep.nd rfl (Or.inl rfl)) pgs_nil))))
      (pss_one (ps_ret (pcall T.dLawPut (ok_putL T) hr pass0 (pa_cons (pv 0) (pa_cons (pv 2) (pa_cons (pv 8) (pa_cons (pv 6) (pa_cons (pv 9) pa_nil))))))))))))), ?_⟩
    have len0 := G.len
    have len1 := G'.len
    have hnn : n ∈ S.nums := (G.nm _ (getN_mem hn)).2
    refine ⟨_, rfl, _, rfl, F, S, F', U, ws, rfl, M, M', G, G', hnx, hnx', fun H1 da s1 nda hda => ?_⟩
    refine ⟨_, rfl, _, rfl, _, rfl, F, S, F', U, ws, x, n, rfl, M.same s1, M'.same s1, G, G', hnx, hnx', hn, fun H2 p s2 np hp => ?_⟩
    refine ⟨p, _, rfl, hp, fun H3 s3 => ?_⟩
    have s03 := (s1.trans s2).trans s3
    have hp3 := s3 _ _ hp
    have hd3 := s3 _ _ (s2 _ _ hda)
    have M3 := M.same s03
    have M3' := M'.same s03
    have W3 := W.same s03
    cases hk : lack S U [n] with
    | nil =>
      obtain ⟨m, hm, hmu⟩ := lack_nil G hnn hk
      have hg : valV (alK (al S U)) (.inl n) = some (.int m) := by rw [alK_get, hm]; rfl
      have hv : valV (calledK S.names) (.inr x) = some (.int n) := by rw [calledK_get, hn]; rfl
      refine iteT ⟨_, rfl, _, rfl, F.m, .ref F.nm, rfl, by rw [← mo_names]; exact DGet.k (k := .inr "names") M3.obj, _, rfl, F.nm, .int n, rfl, by rw [← hv]; exact DGet.k (k := .inr x) M3.nm, da, .int m, rfl, by rw [← hg]; exact DGet.k (k := .inl n) hd3, ?_⟩
      refine ⟨_, rfl, F'.m, .ref F'.nm, rfl, by rw [← mo_names]; exact DGet.k (k := .inr "names") M3'.obj, _, rfl, F'.nm, _, rfl, DPut.k (k := .inr x) M3'.nm (by unfold calledK; rw [List.length_map, sizeLine_eq]; omega), ?_⟩
      rw [calledK_put]
      have ⟨⟨m_ids, m_el, m_pl, m_nm⟩, ⟨ids_el, ids_pl, ids_nm⟩, ⟨el_pl, el_nm⟩, pl_nm⟩ := F'.ne M'.nd
      have kN : Kp [F'.nm] H3 (upd H3 F'.nm (.dK (calledK (setN U.names x m)))) := Kp.put M3'.nm (fun z => z) (by simp)
      obtain ⟨kv1, g1, gl1, g1e⟩ := M3'.el
      obtain ⟨kv2, g2, gl2, g2e⟩ := M3'.pl
      refine q1 hk m hm _ ((Kp.same s03).trans (kN.mono (by simp [MF.l]))) ⟨(upd_ne m_nm).trans M3'.obj, (upd_ne ids_nm).trans M3'.ids, ⟨kv1, (upd_ne el_nm).trans g1, gl1, fun e he => ?_⟩, ⟨kv2, (upd_ne pl_nm).trans g2, gl2, fun e he => ?_⟩, upd_same, M'.nd⟩
      · obtain ⟨b, h1, h2⟩ := g1e e he
        exact ⟨b, h1, kN.tup h2⟩
      · obtain ⟨b, v, h1, h2, h3⟩ := g2e e he
        exact ⟨b, v, h1, kN.tup h2, h3.kp kN⟩
    | cons n0 r =>
      obtain ⟨e, he, rfl, hel, _⟩ := lack_head G hk
      rw [hk] at hp3
      obtain ⟨kv1, g1, gl1, g1e⟩ := M3.el
      obtain ⟨kv2, g2, gl2, g2e⟩ := M3.pl
      obtain ⟨b1, hb1, hb2⟩ := g1e e he
      obtain ⟨b3, v3, hb3, hb4, hb5⟩ := g2e e he
      have few := G.few e he
      refine iteF ⟨_, rfl, F.m, .ref F.el, rfl, by rw [← mo_elders]; exact DGet.k (k := .inr "elders") M3.obj, _, rfl, p, _, _, _, rfl, rfl, SqL.of hp3, atI_nat (j := 0) rfl, F.el, .ref b1, rfl, by rw [← hb1]; exact DGet.k (k := .inl e.n) g1, ?_⟩
      refine ⟨_, rfl, ⟨_, SqT.of hb2⟩, fun D nD => lc_same (Wk.tup (SqT.of hb2)) nD (fun j acc => acc = (alMap (al S U) (e.el.take j)).map V.int) rfl ?_ ?_⟩
      · intro j v acc Hj hj hla hDj sj r hv
        rw [List.getElem?_map] at hv
        obtain ⟨k, hk, rfl⟩ := Option.map_eq_some_iff.mp hv
        obtain ⟨m, hm⟩ := Option.isSome_iff_exists.mp (hel k (List.mem_of_getElem? hk))
        have hg : valV (alK (al S U)) (Sum.inl k) = some (.int m) := by rw [alK_get, hm]; rfl
        refine ⟨rfl, _, rfl, _, rfl, da, .int m, rfl, by rw [← hg]; exact DGet.k (k := Sum.inl k) (sj _ _ hd3), ?_⟩
        refine LcS.put nD sj hDj hla (by rw [List.length_map] at hj; rw [sizeLine_eq]; omega) ?_
        unfold alMap at r ⊢
        rw [r, List.take_add_one, hk, List.map_append, List.map_append]
        show _ ++ [V.int m] = _ ++ [V.int ((alGet _ k).getD 0)]
        rw [hm]
        rfl
      · intro acc H5 s5 r5 hD5
        rw [List.length_map, List.take_length] at r5
        subst r5
        refine ⟨D, _, rfl, .inl ⟨SqL.of hD5, fun t nt => ?_⟩⟩
        have s6 : Same H5 (upd H5 t (.tup ((alMap (al S U) e.el).map V.int))) := Same.new nt
        have ht6 : (upd H5 t (.tup ((alMap (al S U) e.el).map V.int))) t = some (.tup ((alMap (al S U) e.el).map V.int)) := upd_same
        generalize upd H5 t (.tup ((alMap (al S U) e.el).map V.int)) = H6 at s6 ht6
        have s36 : Same H3 H6 := s5.trans s6
        have M6 := M3.same s36
        have hes := elds_map_al (T := U) G (fun e he => he) G.rise (G.el e he) hel
        refine ⟨_, rfl, F.m, .ref F.pl, rfl, by rw [← mo_plain]; exact DGet.k (k := .inr "plain") M6.obj, _, rfl, p, _, _, _, rfl, rfl, SqL.of (s36 _ _ hp3), atI_nat (j := 0) rfl, F.pl, .ref b3, rfl, by rw [← hb3]; exact DGet.k (k := .inl e.n) (s36 _ _ g2), ?_⟩
        refine ⟨b3, _, rfl, SqT.of (s36 _ _ hb4), rfl, _, _, rfl, _, _, rfl, rfl, ?_⟩
        have eie : e.ei = (alMap (al S U) e.el).map U.idAt := G'.elds_map hes
        have eel : (alMap (al S U) e.el).length ≤ 1000 := by
          unfold alMap
          rw [List.length_map]
          omega
        obtain ⟨wp, wi⟩ := Good.wput ws G he
        have ek : mk3 e.st ((alMap (al S U) e.el).map U.idAt) e.wd = worldK e := by rw [← eie]; rfl
        refine ⟨_, rfl, _, rfl, _, rfl, _, rfl, _, rfl, d, ws, F', U, e.st, v3, alMap (al S U) e.el, t, e.wd, rfl, W3.same s36, hwl, M3'.same s36, G', hnx', hb5.same s36, G.st e he, ht6, Elds.mem hes, eel, fun H7 ix hix k7 W7 M7 => ?_⟩
        rw [ek, wp] at hix W7
        have eix := wi ix hix
        rw [eix, ← eie] at M7 ⊢
        exact q2 e he r hk H7 ((Kp.same (s03.trans s36)).trans k7) W7 M7
end
end Mw

/-! _law_is_wood. -/
namespace Mw
open PySem PySem.Spec PyProof.Rows L2
theorem rising_le : ∀ {xs : List Str} {x : Str}, risingS x xs = true → (x :: xs).Pairwise fun a b => cp a ≤ cp b
  | [], x, _ => List.pairwise_singleton _ _
  | y :: r, x, h => by
    have h : (!ltCps y.cps.toList x.cps.toList && risingS y r) = true := h
    obtain ⟨h1, h2⟩ := Bool.and_eq_true_iff.mp h
    have ih := rising_le h2
    have le : cp x ≤ cp y := by
      rw [ltCps_eq] at h1
      have h3 : ¬ (y.cps.toList < x.cps.toList) := by
        intro z
        rw [decide_eq_true z] at h1
        cases h1
      exact List.not_lt.mp h3
    refine List.pairwise_cons.mpr ⟨fun b hb => ?_, ih⟩
    rcases List.mem_cons.mp hb with rfl | hb
    · exact le
    · exact List.le_trans le ((List.pairwise_cons.mp ih).1 b hb)
theorem sorted_le : ∀ {xs : List Str}, sortedS xs = true → xs.Pairwise fun a b => cp a ≤ cp b
  | [], _ => List.Pairwise.nil
  | x :: r, h => rising_le h
theorem srtN_uniq {ns : Nms} {ys zs : List Str} (h1 : srtN ns ys) (h2 : srtN ns zs) : ys = zs :=
  List.Perm.eq_of_pairwise (le := fun a b : Str => cp a ≤ cp b) (fun a b _ _ x y => cp_inj (List.le_antisymm x y)) (sorted_le h1.2) (sorted_le h2.2) (h1.1.trans h2.1.symm)
theorem depth_numsAll (xs : List Int) : NestedKey.depthAll (xs.map .num) ≤ 16 := Nat.le_trans (depthAll_le (d := 0) fun k hk => by
  obtain ⟨x, _, rfl⟩ := List.mem_map.mp hk
  exact Nat.le_refl _) (by omega)
/-- apart -/
def Apart (l m : List Addr) : Prop := ∀ a ∈ l, a ∉ m
section
variable {P : Program} {w : World} {K : PySem.W.Frag} {mg : Str → Option Value} {base : Heap}
def spIsWood (P : Program) (w : World) (K : PySem.W.Frag) : Sp := fun vs H Q _ => ∃ F Fm S ws, vs = [.ref F.o, .ref Fm.m] ∧ WoodAt P w K H F S ∧ ModAt H Fm S ∧ Good ws S ∧ S.next < 1000000 ∧ S.names.length < 60 ∧ Apart F.l Fm.l ∧ ∀ H', Same H H' → Q (.bl true) H'
theorem ok_is_wood (T : Tx K mg) : OkG P w K mg base CX0 4 "_law_is_wood" ["_law_wood", "_law_model_here"] (spIsWood P w K) := by
  refine T.fLawIsWood.ok scLawIsWood (fun vs H Q E h => ?_) (fun cdv A outer s H vs Q E hr h => ?_)
  · obtain ⟨F, Fm, S, ws, rfl, _⟩ := h
    rfl
  · obtain ⟨F, Fm, S, ws, rfl, W, M, G, hnx, hnm, ap, q⟩ := h
    refine ⟨_, PSs.nox (pss_cons (ps_if (PW.pt (pw_or (pt_cmpR (op_neSame hr.units) (pmeth0 (pv 0) T.dWoodMakes (ok_makes T) (hr.mono (by decide)) pass0) (pe_callB (call_sortDI rfl) (by rfl) T.b_sorted (by decide +kernel) (pa_cons (pe_dget (hu_of hr) (pv 1) pe_str (fun _ _ => rfl)) pa_nil)) (nomark _))
          (pw_or1 (pt_cmpR (op_neSame hr.units) (pmeth0 (pv 0) T.dWoodNames (ok_names T) (hr.mono (by decide)) pass0) (pe_callB (call_sortedD rfl) (by rfl) T.b_sorted (by decide +kernel) (pa_cons (pe_dget (hu_of hr) (pv 1) pe_str (fun _ _ => rfl)) pa_nil)) (nomark _)))))
        (pss_one (ps_ret pe_bl)) pss_nil)
      (pss_cons (ps_lock (ps_for PassesOwn.never rfl (pi_keys (pe_dget (hu_of hr) (pv 1) pe_str (fun _ _ => rfl))) (pg_name (i := 2) scLawIsWood.nd rfl (Or.inl rfl))
        (pss_cons (ps_set (i := 3) scLawIsWood.nd rfl (Or.inl rfl) (pe_tup (pa_cons (pmeth (pv 0) T.dWoodStandOf (ok_stand_of T) hr pass0 (pa_cons (pv 2) pa_nil)) (pa_cons (pmeth (pv 0) T.dWoodWordsOf (ok_words_of T) hr pass0 (pa_cons (pv 2) pa_nil)) pa_nil))))
        (pss_one (ps_if (PW.pt (pw_or (pt_cmpR (op_neN hr.units) (pv 3) (pe_dget (hu_of hr) (pe_dget (hu_of hr) (pv 1) pe_str (fun _ _ => rfl)) (pv 2) (fun _ _ => rfl)) (nomark _))
            (pw_or1 (pt_cmpR (op_neN hr.units) (pmeth (pv 0) T.dWoodEldersOf (ok_elders_of T) hr pass0 (pa_cons (pv 2) pa_nil)) (pe_dget (hu_of hr) (pe_dget (hu_of hr) (pv 1) pe_str (fun _ _ => rfl)) (pv 2) (fun _ _ => rfl)) (nomark _)))))
          (pss_one (ps_ret pe_bl)) pss_nil)))))
      (pss_one (ps_ret (pe_callB (cr_all rfl) (by rfl) T.b_all (by decide +kernel) (pa_cons
        (pe_lock (pe_lc (own := [("_law_name", 4), ("_law_number", 2)]) (g := gTup K 2 (gCons (gName 4) (gCons (gName 2) gNil))) (tt := tYes) (te := tOp rEq (tMeth (He.ga K "Wood") "named" (spNamed P w K) [] E0 (tVar 0) (tCons (tVar 4) tNil)) (tVar 2)) rfl scLawIsWood.nd (pi_items (pe_dget (hu_of hr) (pv 1) pe_str (fun _ _ => rfl))) (blkOk_by (N := nLawIsWood) (sc := defScope sLawIsWood) (by decide +kernel))
          (fun _ _ _ _ _ => pg_tup rfl (pgs_cons (pg_name (i := 4) scLawIsWood.nd rfl (Or.inl rfl)) (pgs_cons (pg_name (i := 2) scLawIsWood.nd rfl (Or.inl rfl)) pgs_nil))) (fun _ _ _ _ _ => pts_nil)
          (fun _ _ _ _ _ => pe_cmpR op_eq (pmeth (pv 0) T.dWoodNamed (ok_named T) hr pass0 (pa_cons (pv 4) pa_nil)) (pv 2) (nomark _)))) pa_nil)))))), ?_⟩
    have len0 := G.len
    have ⟨⟨m_ids, m_el, m_pl, m_nm⟩, ⟨ids_el, ids_pl, ids_nm⟩, ⟨el_pl, el_nm⟩, pl_nm⟩ := Fm.ne M.nd
    obtain ⟨dx, ho⟩ := W.obj
    refine ⟨_, rfl, _, _, _, rfl, ho, rfl, F, S, ws, rfl, W, G, fun p np => ?_⟩
    have s1 : Same H (upd H p (.lst (S.nums.map V.int))) := Same.new np
    have hp1 : (upd H p (.lst (S.nums.map V.int))) p = some (.lst (S.nums.map V.int)) := upd_same
    generalize upd H p (.lst (S.nums.map V.int)) = H1 at s1 hp1
    have M1 := M.same s1
    refine ⟨_, rfl, Fm.m, .ref Fm.ids, rfl, by rw [← mo_makes]; exact DGet.k (k := .inr "makes") M1.obj, Fm.ids, _, _, rfl, .inl M1.ids, idK_keys, fun ys p2 hp hs np2 => ?_⟩
    have eys : ys = S.nums := List.Perm.eq_of_pairwise (le := fun a b : Int => a ≤ b) (fun a b _ _ x y => Int.le_antisymm x y) hs (G.nums_rise.imp Int.le_of_lt) hp
    rw [eys]
    have s2 : Same H1 (upd H1 p2 (.lst (S.nums.map V.int))) := Same.new np2
    have hp2 : (upd H1 p2 (.lst (S.nums.map V.int))) p2 = some (.lst (S.nums.map V.int)) := upd_same
    generalize upd H1 p2 (.lst (S.nums.map V.int)) = H2 at s2 hp2
    refine ⟨p, p2, _, _, S.nums.map .num, rfl, rfl, s2 _ _ hp1, hp2, .nums _, .nums _, depth_numsAll _, _, rfl, iteF ?_⟩
    have s02 := s1.trans s2
    have W2 := W.same s02
    have M2 := M.same s02
    obtain ⟨dx2, ho2⟩ := W2.obj
    refine ⟨_, rfl, _, _, _, rfl, ho2, rfl, F, S, rfl, W2, hnm, fun ys1 p3 hy1 np3 => ?_⟩
    have s3 : Same H2 (upd H2 p3 (.lst (ys1.map V.str))) := Same.new np3
    have hp3 : (upd H2 p3 (.lst (ys1.map V.str))) p3 = some (.lst (ys1.map V.str)) := upd_same
    generalize upd H2 p3 (.lst (ys1.map V.str)) = H3 at s3 hp3
    have M3 := M2.same s3
    refine ⟨_, rfl, Fm.m, .ref Fm.nm, rfl, by rw [← mo_names]; exact DGet.k (k := .inr "names") M3.obj, Fm.nm, _, S.names.map (·.1), rfl, .inl M3.nm, calledK_keys, by rw [List.length_map]; omega, fun ys2 p4 hq hqs np4 => ?_⟩
    have ey : ys2 = ys1 := srtN_uniq ⟨hq, hqs⟩ hy1
    rw [ey]
    have s4 : Same H3 (upd H3 p4 (.lst (ys1.map V.str))) := Same.new np4
    have hp4 : (upd H3 p4 (.lst (ys1.map V.str))) p4 = some (.lst (ys1.map V.str)) := upd_same
    generalize upd H3 p4 (.lst (ys1.map V.str)) = H4 at s4 hp4
    refine ⟨p3, p4, _, _, ys1.map .text, rfl, rfl, s4 _ _ hp3, hp4, .texts _, .texts _, depth_texts _, _, rfl, iteF ?_⟩
    have s04 := (s02.trans s3).trans s4
    have W4 := W.same s04
    have M4 := M.same s04
    refine ⟨Fm.ids, _, M4.ids, trivial, fun od => ?_⟩
    let HL : Hp := upd H4 Fm.ids (.frz od (.dK (idK S.ents)))
    have kL : Kp [Fm.ids] H4 HL := Kp.put M4.ids (fun z => z) (by simp)
    have hobL : HL Fm.m = some (.dK (modelK Fm S.next)) := (upd_ne m_ids).trans M4.obj
    have WL : WoodAt P w K HL F S := W4.kp kL fun a ha z => ap a ha (by rw [List.mem_singleton.mp z]; simp [MF.l])
    obtain ⟨kv1, g1, gl1, g1e⟩ := M4.el
    obtain ⟨kv2, g2, gl2, g2e⟩ := M4.pl
    have g1L : HL Fm.el = some (.dK kv1) := (upd_ne ids_el.symm).trans g1
    have g2L : HL Fm.pl = some (.dK kv2) := (upd_ne ids_pl.symm).trans g2
    refine ⟨_, rfl, Fm.m, .ref Fm.ids, rfl, by rw [← mo_makes]; exact DGet.k (k := .inr "makes") hobL, Fm.ids, od, rfl, .inl ⟨_, upd_same, for_wk (S := []) (Wk.keys upd_same) (fun i σ Hc => Kp [] HL Hc ∧ ∃ x2 x3, σ = [some (.ref F.o), some (.ref Fm.m), x2, x3, none])
      ⟨Kp.refl, none, none, rfl⟩ (fun i σ Hc h => h.1) ?_ ?_⟩⟩
    · rintro i x σ Hc Hc' hi ⟨kc, x2, x3, rfl⟩ sc ⟨ky, z, rfl, hkz⟩
      unfold idK at hkz
      rw [List.getElem?_map] at hkz
      obtain ⟨e, hei, ee⟩ := Option.map_eq_some_iff.mp hkz
      cases ee
      have he := List.mem_of_getElem? hei
      have hen : e.n ∈ S.nums := Wo.mem_nums.mpr ⟨e, he, rfl⟩
      have scL : Same HL Hc' := (kc.trans (.same sc)).to_same
      have W5 := WL.same scL
      obtain ⟨dx5, ho5⟩ := W5.obj
      refine ⟨_, rfl, _, _, _, rfl, ho5, rfl, _, rfl, F, S, e.n, rfl, W5, hen, fun e1 he1 en1 v hv => ?_⟩
      obtain rfl := G.uniq he1 he en1
      refine ⟨_, rfl, _, _, _, rfl, ho5, rfl, _, rfl, F, S, e1.n, rfl, W5, hen, fun e2 he2 en2 => ?_⟩
      obtain rfl := G.uniq he2 he1 en2
      refine ⟨by show 2 ≤ sizeLine; decide, fun t nt => ?_⟩
      have s6 : Same Hc' (upd Hc' t (.tup [v, .str e2.wd])) := Same.new nt
      have ht6 : (upd Hc' t (.tup [v, .str e2.wd])) t = some (.tup [v, .str e2.wd]) := upd_same
      generalize upd Hc' t (.tup [v, .str e2.wd]) = H6 at s6 ht6
      have sL6 := scL.trans s6
      obtain ⟨b1, hb1, hb2⟩ := g1e e2 he2
      obtain ⟨b3, v3, hb3, hb4, hb5⟩ := g2e e2 he2
      have k46 : Kp [Fm.ids] H4 H6 := kL.trans (.same sL6)
      have hd6 : NestedKey.depthAll [e2.st, .text e2.wd] ≤ 16 := depthAll_le fun k hk => by
        rcases List.mem_cons.mp hk with rfl | hk
        · have := (G.st e2 he2).depth
          omega
        · rw [List.mem_singleton.mp hk]
          exact Nat.zero_le _
      refine ⟨_, rfl, _, rfl, Fm.m, .ref Fm.pl, rfl, by rw [← mo_plain]; exact DGet.k (k := .inr "plain") (sL6 _ _ hobL), _, rfl, Fm.pl, .ref b3, rfl, by rw [← hb3]; exact DGet.k (k := .inl e2.n) (sL6 _ _ g2L), ?_⟩
      refine ⟨[e2.st, .text e2.wd], [e2.st, .text e2.wd], Dt.tup1 ht6 (.cons1 (hv.same s6) (.cons1 rfl .nil1)), Dt.tup1 (k46.tup hb4) (.cons1 (hb5.kp k46) (.cons1 rfl .nil1)), hd6, _, rfl, ?_⟩
      rw [decide_eq_true rfl]
      have W6 := W5.same s6
      obtain ⟨dx6, ho6⟩ := W6.obj
      refine iteF ⟨_, rfl, _, _, _, rfl, ho6, rfl, _, rfl, F, S, e2.n, rfl, W6, hen, fun e3 he3 en3 a ha => ?_⟩
      obtain rfl := G.uniq he3 he2 en3
      refine ⟨_, rfl, Fm.m, .ref Fm.el, rfl, by rw [← mo_elders]; exact DGet.k (k := .inr "elders") (sL6 _ _ hobL), _, rfl, Fm.el, .ref b1, rfl, by rw [← hb1]; exact DGet.k (k := .inl e3.n) (sL6 _ _ g1L), ?_⟩
      refine ⟨e3.el.map .num, e3.el.map .num, Dt.tup1 ha (.nums _), Dt.tup1 (k46.tup hb2) (.nums _), depth_numsAll _, _, rfl, ?_⟩
      rw [decide_eq_true rfl]
      exact iteF ⟨.same sL6, _, _, rfl⟩
    · rintro σ Hc ⟨kc, x2, x3, rfl⟩
      refine ⟨kc.to_same _ _ upd_same, ?_⟩
      have sU : Same H4 (upd Hc Fm.ids (.dK (idK S.ents))) := unlock M4.ids kc.to_same
      generalize upd Hc Fm.ids (.dK (idK S.ents)) = H7 at sU
      have W7 := W4.same sU
      have M7 := M4.same sU
      refine ⟨Fm.nm, _, M7.nm, trivial, fun od2 => ?_⟩
      let HN : Hp := upd H7 Fm.nm (.frz od2 (.dK (calledK S.names)))
      have kN : Kp [Fm.nm] H7 HN := Kp.put M7.nm (fun z => z) (by simp)
      have WN : WoodAt P w K HN F S := W7.kp kN fun a ha z => ap a ha (by rw [List.mem_singleton.mp z]; simp [MF.l])
      have hobN : HN Fm.m = some (.dK (modelK Fm S.next)) := (upd_ne m_nm).trans M7.obj
      refine ⟨_, rfl, Fm.m, .ref Fm.nm, rfl, by rw [← mo_names]; exact DGet.k (k := .inr "names") hobN, Fm.nm, od2, _, rfl, upd_same, fun D nD => lc_true (Wk.items upd_same) nD (by unfold calledK; rw [List.length_map, sizeLine_eq]; omega) (fun i v Hc k hi sc hv hk => ?_) (fun H8 s8 hD8 => ?_)⟩
      · obtain ⟨tt, ky, z, rfl, htt, hkz⟩ := hv
        unfold calledK at hkz
        rw [List.getElem?_map] at hkz
        obtain ⟨p5, hp5, ee⟩ := Option.map_eq_some_iff.mp hkz
        cases ee
        have hpm := List.mem_of_getElem? hp5
        have Wc := WN.same sc
        obtain ⟨dxc, hoc⟩ := Wc.obj
        refine ⟨_, _, rfl, SqT.of htt, rfl, _, _, rfl, _, _, rfl, rfl, rfl, _, rfl, _, _, _, rfl, hoc, rfl, _, rfl, F, S, p5.1, p5.2, rfl, Wc, (G.nm p5 hpm).1, getN_of G.nnd hpm, fun H9 s9 => ?_⟩
        exact ⟨_, rfl, rfl, qT (decide_eq_true rfl) (hk _ s9)⟩
      · refine ⟨s8 _ _ upd_same, ?_⟩
        have sV : Same H7 (upd H8 Fm.nm (.dK (calledK S.names))) := unlock M7.nm s8
        have D_nm : D ≠ Fm.nm := (ne_of_none (show HN Fm.nm = some _ from upd_same) nD).symm
        refine ⟨_, _, rfl, SqL.of ((upd_ne D_nm).trans hD8), qT (all_true _) (q _ ((s04.trans sU).trans sV))⟩
end
end Mw

/-! _law_let_go. -/
namespace Mw
open PySem PySem.Spec PyProof.Rows L2
theorem idK_drop {es : List Ent} {n : Int} : dropK (idK es) (Sum.inl n) = idK (es.filter fun e => decide (e.n ≠ n)) := by
  unfold dropK idK
  rw [List.filter_map]
  congr 1
  refine List.filter_congr fun p _ => ?_
  show decide ((Sum.inl p.n : Key) ≠ Sum.inl n) = _
  exact decide_eq_decide.mpr ⟨fun z y => z (by rw [y]), fun z y => z (Sum.inl.inj y)⟩
theorem Wo.starts_mem {S : Wo} {ws : List NestedKey} (G : Good ws S) (held : List Int) : ∀ x ∈ S.starts held, x ∈ S.nums := by
  intro x hx
  rcases List.mem_append.mp hx with hx | hx
  · obtain ⟨p, hp, rfl⟩ := List.mem_map.mp hx
    exact (G.nm p hp).2
  · exact of_decide_eq_true (List.mem_filter.mp hx).2
theorem Good.stay {S : Wo} {ws : List NestedKey} (G : Good ws S) (held : List Int) : Good ws (S.stay held) := by
  refine G.keep (fun e he h k hk => ?_) (fun q hq => ?_)
  · exact decide_eq_true (line_elders G he (of_decide_eq_true h) hk)
  · refine decide_eq_true (line_mem.mpr ⟨(G.nm q hq).2, .start ?_⟩)
    exact List.mem_append_left _ (List.mem_map_of_mem hq)
theorem Good.names3 {S : Wo} {ws : List NestedKey} (G : Good ws S) : S.names.length ≤ 3 := by
  have key : ∀ {l m : List Str}, l.Nodup → (∀ x ∈ l, x ∈ m) → l.length ≤ m.length := fun nd h => List.Nodup.length_le_of_subset nd h
  have := key G.nnd (m := namesL) fun x hx => by
    obtain ⟨p, hp, rfl⟩ := List.mem_map.mp hx
    exact (G.nm p hp).1
  rw [List.length_map] at this
  exact this
section
variable {P : Program} {w : World} {K : PySem.W.Frag} {mg : Str → Option Value} {base : Heap}
variable {H : Hp} {F : WF} {Fm : MF} {S : Wo} {D : Addr}
theorem WoodAt.fresh (W : WoodAt P w K H F S) (h : H D = none) : D ∉ F.l := by
  intro z
  obtain ⟨dx, ho⟩ := W.obj
  obtain ⟨es, h1, h2, h3⟩ := W.parts
  simp only [WF.l, List.mem_cons, List.not_mem_nil, or_false] at z
  rcases z with rfl | rfl | rfl | rfl
  · rw [ho] at h; cases h
  · rw [h2] at h; cases h
  · rw [h3.at_] at h; cases h
  · rw [W.called] at h; cases h
theorem ModAt.fresh (M : ModAt H Fm S) (h : H D = none) : D ∉ Fm.l := by
  intro z
  obtain ⟨kv1, g1, _⟩ := M.el
  obtain ⟨kv2, g2, _⟩ := M.pl
  simp only [MF.l, List.mem_cons, List.not_mem_nil, or_false] at z
  rcases z with rfl | rfl | rfl | rfl | rfl
  · rw [M.obj] at h; cases h
  · rw [M.ids] at h; cases h
  · rw [g1] at h; cases h
  · rw [g2] at h; cases h
  · rw [M.nm] at h; cases h
theorem WoodAt.lst {xs : List V} (W : WoodAt P w K H F S) (h : H D = some (.lst xs)) : D ∉ F.l := by
  intro z
  obtain ⟨dx, ho⟩ := W.obj
  obtain ⟨es, h1, h2, h3⟩ := W.parts
  simp only [WF.l, List.mem_cons, List.not_mem_nil, or_false] at z
  rcases z with rfl | rfl | rfl | rfl
  · rw [ho] at h; cases h
  · rw [h2] at h; cases h
  · rw [h3.at_] at h; cases h
  · rw [W.called] at h; cases h
theorem ModAt.lst {xs : List V} (M : ModAt H Fm S) (h : H D = some (.lst xs)) : D ∉ Fm.l := by
  intro z
  obtain ⟨kv1, g1, _⟩ := M.el
  obtain ⟨kv2, g2, _⟩ := M.pl
  simp only [MF.l, List.mem_cons, List.not_mem_nil, or_false] at z
  rcases z with rfl | rfl | rfl | rfl | rfl
  · rw [M.obj] at h; cases h
  · rw [M.ids] at h; cases h
  · rw [g1] at h; cases h
  · rw [g2] at h; cases h
  · rw [M.nm] at h; cases h
def spLetGoL (P : Program) (w : World) (K : PySem.W.Frag) : Sp := fun vs H Q _ => ∃ F Fm S ws held a, vs = [.ref F.o, .ref Fm.m, .ref a] ∧ H a = some (.lst (held.map V.int)) ∧ WoodAt P w K H F S ∧ ModAt H Fm S ∧ Good ws S ∧ S.next < 1000000 ∧ held.length < 100 ∧ Apart F.l Fm.l ∧
  ∀ H', Kp (F.l ++ Fm.l) H H' → WoodAt P w K H' F (S.stay held) → ModAt H' Fm (S.stay held) → Q (.bl true) H'
theorem ok_let_goL (T : Tx K mg) : OkG P w K mg base CX0 6 "_law_let_go" ["_law_wood", "_law_model_here", "_law_held"] (spLetGoL P w K) := by
  refine T.fLawLetGo.ok scLawLetGo (fun vs H Q E h => ?_) (fun cdv A outer s H vs Q E hr h => ?_)
  · obtain ⟨F, Fm, S, ws, held, a, rfl, _⟩ := h
    rfl
  · obtain ⟨F, Fm, S, ws, held, a, rfl, ha, W, M, G, hnx, hhl, ap, q⟩ := h
    refine ⟨_, PSs.nox (pss_cons (ps_set (i := 3) scLawLetGo.nd rfl (Or.inr rfl) (pcall T.dLawLine (ok_lineL T) (hr.mono (by decide)) pass0 (pa_cons (pv 1) (pa_cons (pe_op op_cat
          (pe_lc (own := [("_law_one", 4)]) (g := gName 4) (tt := tB (tDIn (tVar 4) (tDGet (tVar 1) (tC (.str "makes"))))) (te := tVar 4) rfl scLawLetGo.nd (pi_list (pv 2)) (blkOk_by (N := nLawLetGo) (sc := defScope sLawLetGo) (by decide +kernel)) (fun _ _ _ _ _ => pg_name (i := 4) scLawLetGo.nd rfl (Or.inl rfl))
            (fun _ _ _ _ _ => pts_one (pt_cmp (pc_din (hu_of hr) (pv 4) (pe_dget (hu_of hr) (pv 1) pe_str (fun _ _ => rfl))) rfl)) (fun _ _ _ _ _ => pv 4))
          (pe_listVals rfl (pe_dget (hu_of hr) (pv 1) pe_str (fun _ _ => rfl)) (by rfl) T.b_list)) pa_nil))))
      (pss_cons (ps_setLc (i := 5) (own := [("_law_number", 6)]) (g := gName 6) (tt := tTest (tOp (rNotInI K) (tVar 6) (tVar 3))) (te := tVar 6) rfl scLawLetGo.nd rfl rfl (sw_true rfl rfl rfl (by decide +kernel))
          (pi_list (pe_callB (call_sortDI rfl) (by rfl) T.b_sorted (by decide +kernel) (pa_cons (pe_dget (hu_of hr) (pv 1) pe_str (fun _ _ => rfl)) pa_nil))) (blkOk_by (N := nLawLetGo) (sc := defScope sLawLetGo) (by decide +kernel)) (fun _ _ _ _ _ => pg_name (i := 6) scLawLetGo.nd rfl (Or.inl rfl))
            (fun _ _ _ _ _ => pts_one (pt_cmpR op_notInI (pv 6) (pv 3) rfl)) (fun _ _ _ _ _ => pv 6))
      (pss_cons (ps_if (PW.pt (pw_or (pt_cmpR (op_neSame hr.units) (pcall T.dComeTo (ok_come_to T) hr pass0 (pa_cons (pv 0) (pa_cons (pv 2) pa_nil))) (pv 3) (nomark _))
          (pw_or1 (pt_cmpR (op_neSame hr.units) (pmeth (pv 0) T.dWoodLetGo (ok_let_go T) (hr.mono (by decide)) pass0 (pa_cons (pe_callTy call_list_of (by rfl) T.b_list (by decide +kernel) (pa_cons (pv 2) pa_nil)) pa_nil)) (pv 5) (nomark _)))))
        (pss_one (ps_ret pe_bl)) pss_nil)
      (pss_cons (ps_for PassesOwn.never rfl (pi_list (pv 5)) (pg_name (i := 6) scLawLetGo.nd rfl (Or.inl rfl))
        (pss_one (ps_expr (pe_dpop1 (pe_dget (hu_of hr) (pv 1) pe_str (fun _ _ => rfl)) (pv 6) ⟨rfl, rfl, rfl, rfl⟩))))
      (pss_one (ps_ret pe_bl)))))), ?_⟩
    have len0 := G.len
    have hnm := G.names3
    have hsm : smallE S := by unfold smallE; omega
    have ⟨⟨m_ids, m_el, m_pl, m_nm⟩, ⟨ids_el, ids_pl, ids_nm⟩, ⟨el_pl, el_nm⟩, pl_nm⟩ := Fm.ne M.nd
    refine ⟨_, rfl, _, rfl, _, rfl, ⟨_, SqL.of ha⟩, fun D nD => lc_same (Wk.list (SqL.of ha) (by simp)) nD (fun i acc => acc = ((held.take i).filter fun n => decide (n ∈ S.nums)).map V.int) rfl ?_ ?_⟩
    · intro i v acc Hc hi hla hDc sc r hv
      rw [List.getElem?_map] at hv
      obtain ⟨n, hn, rfl⟩ := Option.map_eq_some_iff.mp hv
      have Mc := M.same sc
      refine ⟨rfl, _, rfl, _, rfl, Fm.m, .ref Fm.ids, rfl, by rw [← mo_makes]; exact DGet.k (k := .inr "makes") Mc.obj, Fm.ids, _, rfl, DGet.k (k := .inl n) Mc.ids, _, rfl, ?_⟩
      have hs : (valV (idK S.ents) (.inl n)).isSome = decide (n ∈ S.nums) := by
        by_cases hm : n ∈ S.nums
        · rw [idK_at G hm, decide_eq_true hm]
          rfl
        · rw [idK_get, Option.isSome_map, decide_eq_false hm]
          cases y : S.ents.find? (fun e => decide (e.n = n)) with
          | none => rfl
          | some e => exact absurd (Wo.mem_nums.mpr ⟨e, (findD y).2, (findD y).1⟩) hm
      rw [hs]
      by_cases hm : n ∈ S.nums
      · rw [decide_eq_true hm]
        refine iteT ⟨_, rfl, LcS.put nD sc hDc hla (by rw [List.length_map] at hi; rw [sizeLine_eq]; omega) ?_⟩
        rw [r, List.take_add_one, hn, List.filter_append, List.map_append]
        simp [hm]
      · rw [decide_eq_false hm]
        refine iteF (LcS.skip sc hDc hla ?_)
        rw [r, List.take_add_one, hn, List.filter_append, List.map_append]
        simp [hm]
    · intro acc H1 s1 r hD1
      rw [List.length_map, List.take_length] at r
      subst r
      have hot : (held.filter fun n => decide (n ∈ S.nums)).length ≤ held.length := List.length_filter_le _ _
      have M1 := M.same s1
      refine ⟨_, rfl, Fm.m, .ref Fm.nm, rfl, by rw [← mo_names]; exact DGet.k (k := .inr "names") M1.obj, Fm.nm, _, rfl, M1.nm, fun pv npv => ?_⟩
      have env : (calledK S.names).map (·.2) = (S.names.map (·.2)).map V.int := by
        unfold calledK
        rw [List.map_map, List.map_map]
        rfl
      rw [env]
      have s2 : Same H1 (upd H1 pv (.lst ((S.names.map (·.2)).map V.int))) := Same.new npv
      have hpv2 : (upd H1 pv (.lst ((S.names.map (·.2)).map V.int))) pv = some (.lst ((S.names.map (·.2)).map V.int)) := upd_same
      generalize upd H1 pv (.lst ((S.names.map (·.2)).map V.int)) = H2 at s2 hpv2
      refine ⟨D, pv, _, _, rfl, rfl, s2 _ _ hD1, hpv2, by rw [List.length_map, List.length_map, List.length_map, sizeLine_eq]; omega, fun l nl => ?_⟩
      rw [← List.map_append]
      generalize hst : held.filter (fun n => decide (n ∈ S.nums)) ++ S.names.map (·.2) = st
      have est : line S st = line S (S.starts held) := by
        refine line_congr fun x => ?_
        rw [← hst]
        unfold Wo.starts
        rw [List.mem_append, List.mem_append, or_comm]
      have stn : ∀ x ∈ st, x ∈ S.nums := by
        intro x hx
        rw [← hst] at hx
        refine Wo.starts_mem G held x ?_
        unfold Wo.starts
        exact List.mem_append.mpr ((List.mem_append.mp hx).symm)
      have stl : st.length < 2000 := by
        rw [← hst, List.length_append, List.length_map]
        omega
      have s3 : Same H2 (upd H2 l (.lst (st.map V.int))) := Same.new nl
      have hl3 : (upd H2 l (.lst (st.map V.int))) l = some (.lst (st.map V.int)) := upd_same
      generalize upd H2 l (.lst (st.map V.int)) = H3 at s3 hl3
      have s03 := (s1.trans s2).trans s3
      refine ⟨Fm, S, ws, st, l, rfl, SqL.of hl3, M.same s03, G, hnx, stn, stl, fun H4 pS s4 npS hpS => ?_⟩
      rw [est] at hpS
      have s04 := s03.trans s4
      have M4 := M.same s04
      refine ⟨_, rfl, Fm.m, .ref Fm.ids, rfl, by rw [← mo_makes]; exact DGet.k (k := .inr "makes") M4.obj, Fm.ids, _, _, rfl, .inl M4.ids, idK_keys, fun ys t hp hs nt => ?_⟩
      have eys : ys = S.nums := List.Perm.eq_of_pairwise (le := fun a b : Int => a ≤ b) (fun a b _ _ x y => Int.le_antisymm x y) hs (G.nums_rise.imp Int.le_of_lt) hp
      rw [eys]
      have s5 : Same H4 (upd H4 t (.lst (S.nums.map V.int))) := Same.new nt
      have ht5 : (upd H4 t (.lst (S.nums.map V.int))) t = some (.lst (S.nums.map V.int)) := upd_same
      generalize upd H4 t (.lst (S.nums.map V.int)) = H5 at s5 ht5
      refine ⟨t, rfl, ⟨_, SqL.of ht5⟩, fun D2 nD2 => lc_same (Wk.list (SqL.of ht5) (by simp)) nD2 (fun i acc => acc = ((S.nums.take i).filter fun n => decide (n ∉ line S (S.starts held))).map V.int) rfl ?_ ?_⟩
      · intro i v acc Hc hi hla hDc sc r hv
        rw [List.getElem?_map] at hv
        obtain ⟨n, hn, rfl⟩ := Option.map_eq_some_iff.mp hv
        have hnl := nums_len (S := S)
        refine ⟨rfl, _, rfl, _, rfl, n, pS, line S (S.starts held), rfl, rfl, SqL.of (sc _ _ (s5 _ _ hpS)), _, rfl, ?_⟩
        by_cases hf : n ∈ line S (S.starts held)
        · rw [decide_eq_true hf]
          refine iteF (LcS.skip sc hDc hla ?_)
          rw [r, List.take_add_one, hn, List.filter_append, List.map_append]
          simp [hf]
        · rw [decide_eq_false hf]
          refine iteT ⟨_, rfl, LcS.put nD2 sc hDc hla (by rw [List.length_map] at hi; rw [sizeLine_eq]; omega) ?_⟩
          rw [r, List.take_add_one, hn, List.filter_append, List.map_append]
          simp [hf]
      · intro acc H6 s6 r hD2
        rw [List.length_map, List.take_length] at r
        subst r
        have eg : S.nums.filter (fun n => decide (n ∉ line S (S.starts held))) = S.gone held := rfl
        rw [eg] at hD2
        have s46 := s5.trans s6
        have s06 := s04.trans s46
        have nD0 : H D2 = none := Same.no (s04.trans s5) nD2
        have W6 := W.same s06
        have hpS6 := s46 _ _ hpS
        refine ⟨_, rfl, _, rfl, F, S, ws, held, a, rfl, s06 _ _ ha, W6, G, hsm, by omega, hhl, fun H7 p7 s7 np7 hp7 => ?_⟩
        refine ⟨_, rfl, p7, pS, _, _, (line S (S.starts held)).map .num, rfl, rfl, hp7, s7 _ _ hpS6, .nums _, .nums _, depth_numsAll _, _, rfl, iteF ?_⟩
        have s07 := s06.trans s7
        have W7 := W.same s07
        obtain ⟨dx7, ho7⟩ := W7.obj
        refine ⟨_, rfl, _, _, _, rfl, ho7, rfl, _, rfl, a, _, rfl, .inl (SqL.of (s07 _ _ ha)), fun b nb => ?_⟩
        have s8 : Same H7 (upd H7 b (.lst (held.map V.int))) := Same.new nb
        have hb8 : (upd H7 b (.lst (held.map V.int))) b = some (.lst (held.map V.int)) := upd_same
        generalize upd H7 b (.lst (held.map V.int)) = H8 at s8 hb8
        have s08 := s07.trans s8
        have W8 := W.same s08
        refine ⟨F, S, ws, held, b, rfl, hb8, W8, G, hsm, by omega, hhl, fun H9 p9 k9 np9 hp9 W9 => ?_⟩
        have D2F : D2 ∉ F.l := W.fresh nD0
        have hD9 : H9 D2 = some (.lst ((S.gone held).map V.int)) := k9.at (s8 _ _ (s7 _ _ hD2)) D2F
        refine ⟨_, rfl, p9, D2, _, _, (S.gone held).map .num, rfl, rfl, hp9, hD9, .nums _, .nums _, depth_numsAll _, _, rfl, iteF ?_⟩
        have M9 : ModAt H9 Fm S := (M.same s08).kp k9 fun x hx z => ap x z hx
        have k09 : Kp F.l H H9 := (Kp.same s08).trans k9
        have D2M : D2 ∉ Fm.l := M.fresh nD0
        have gnd : (S.gone held).Nodup := (G.nums_rise.imp fun h => Int.ne_of_lt h).filter _
        refine ⟨_, rfl, _, rfl, ⟨_, SqL.of hD9⟩, for_wk (S := Fm.l) (Wk.list (SqL.of hD9) D2M) (fun i σ Hc => Kp Fm.l H9 Hc ∧ (∃ x6, σ = [some (.ref F.o), some (.ref Fm.m), some (.ref a), some (.ref pS), none, some (.ref D2), x6]) ∧ ModAt Hc Fm (S.keep fun n => decide (n ∉ (S.gone held).take i)))
          ⟨Kp.refl, ⟨none, rfl⟩, ?_⟩ (fun i σ Hc h => h.1) ?_ ?_⟩
        · have e0 : (S.keep fun n => decide (n ∉ (S.gone held).take 0)) = S := by
            unfold Wo.keep
            have : S.ents.filter (fun e => decide (e.n ∉ (S.gone held).take 0)) = S.ents := List.filter_eq_self.mpr fun e he => by simp
            rw [this]
          rw [e0]
          exact M9
        · rintro i x σ Hc Hc' hi ⟨kc, ⟨x6, rfl⟩, Mc⟩ sc hx
          rw [List.getElem?_map] at hx
          obtain ⟨n, hn, rfl⟩ := Option.map_eq_some_iff.mp hx
          have Mc' := Mc.same sc
          have hgn : n ∈ S.nums := (List.mem_filter.mp (List.mem_of_getElem? hn)).1
          obtain ⟨e, he, en⟩ := Wo.mem_nums.mp hgn
          have hnt : n ∉ (S.gone held).take i := by
            intro z
            obtain ⟨hi2, ei⟩ := List.getElem?_eq_some_iff.mp hn
            obtain ⟨j, hj, ej⟩ := List.mem_take_iff_getElem.mp z
            have := (List.getElem_inj gnd).mp (ej.trans ei.symm)
            omega
          have hee : e ∈ (S.keep fun n => decide (n ∉ (S.gone held).take i)).ents := List.mem_filter.mpr ⟨he, decide_eq_true (by rw [en]; exact hnt)⟩
          have hs : ∃ u, valV (idK (S.keep fun n => decide (n ∉ (S.gone held).take i)).ents) (.inl n) = some u := by
            rw [idK_get]
            cases y : (S.keep fun n => decide (n ∉ (S.gone held).take i)).ents.find? (fun f => decide (f.n = n)) with
            | none => exact absurd (decide_eq_true en) (List.find?_eq_none.mp y e hee)
            | some f => exact ⟨_, rfl⟩
          obtain ⟨u, hu⟩ := hs
          refine ⟨_, rfl, Fm.m, .ref Fm.ids, rfl, by rw [← mo_makes]; exact DGet.k (k := .inr "makes") Mc'.obj, Fm.ids, rfl, .inl ⟨_, .inl Mc'.ids⟩, _, rfl, _, .inl n, u, Mc'.ids, rfl, hu, ?_⟩
          rw [idK_drop]
          have ek : (S.keep fun n => decide (n ∉ (S.gone held).take i)).ents.filter (fun e => decide (e.n ≠ n)) = (S.keep fun n => decide (n ∉ (S.gone held).take (i + 1))).ents := by
            unfold Wo.keep
            rw [List.filter_filter]
            refine List.filter_congr fun f hf => ?_
            have etk : (S.gone held).take (i + 1) = (S.gone held).take i ++ [n] := by rw [List.take_add_one, hn]; rfl
            rw [etk]
            by_cases z1 : f.n = n
            · simp [z1]
            · simp [z1]
          rw [ek]
          have sub : ∀ f ∈ (S.keep fun n => decide (n ∉ (S.gone held).take (i + 1))).ents, f ∈ (S.keep fun n => decide (n ∉ (S.gone held).take i)).ents := by
            intro f hf
            rw [← ek] at hf
            exact (List.mem_filter.mp hf).1
          obtain ⟨kv1, g1, gl1, g1e⟩ := Mc'.el
          obtain ⟨kv2, g2, gl2, g2e⟩ := Mc'.pl
          have kI : Kp [Fm.ids] Hc' (upd Hc' Fm.ids (.dK (idK (S.keep fun n => decide (n ∉ (S.gone held).take (i + 1))).ents))) := Kp.put Mc'.ids (fun z => z) (by simp)
          refine ⟨(kc.trans (.same sc)).trans (kI.mono (by simp [MF.l])), ⟨_, rfl⟩, (upd_ne m_ids).trans Mc'.obj, upd_same, ⟨kv1, (upd_ne ids_el.symm).trans g1, gl1, fun f hf => ?_⟩, ⟨kv2, (upd_ne ids_pl.symm).trans g2, gl2, fun f hf => ?_⟩, (upd_ne ids_nm.symm).trans Mc'.nm, M.nd⟩
          · obtain ⟨b', h1, h2⟩ := g1e f (sub f hf)
            exact ⟨b', h1, kI.tup h2⟩
          · obtain ⟨b', v', h1, h2, h3⟩ := g2e f (sub f hf)
            exact ⟨b', v', h1, kI.tup h2, h3.kp kI⟩
        · rintro σ Hc ⟨kc, ⟨x6, rfl⟩, Mc⟩
          rw [List.length_map, List.take_length] at Mc
          have e1 : (S.keep fun n => decide (n ∉ S.gone held)) = S.stay held := by
            unfold Wo.stay Wo.keep
            have : S.ents.filter (fun e => decide (e.n ∉ S.gone held)) = S.ents.filter (fun e => decide (e.n ∈ line S (S.starts held))) := by
              refine List.filter_congr fun e he => ?_
              have hen : e.n ∈ S.nums := Wo.mem_nums.mpr ⟨e, he, rfl⟩
              refine decide_eq_decide.mpr ⟨fun z => ?_, fun z y => ?_⟩
              · by_cases y : e.n ∈ line S (S.starts held)
                · exact y
                · exact absurd (List.mem_filter.mpr ⟨hen, decide_eq_true y⟩) z
              · exact of_decide_eq_true (List.mem_filter.mp y).2 z
            rw [this]
          rw [e1] at Mc
          exact q Hc ((k09.mono fun x hx => List.mem_append_left _ hx).trans (kc.mono fun x hx => List.mem_append_right _ hx)) (W9.kp kc fun x hx => ap x hx) Mc
end
end Mw

/-! Both woods, both models, the world; _law_named. -/
namespace Mw
open PySem PySem.Spec PyProof.Rows L2
structure GA where
  lw : Addr
  lm : Addr
  d : Addr
  F : Bool → WF
  M : Bool → MF
def GA.side (g : GA) (b : Bool) : List Addr := (g.F b).l ++ (g.M b).l
def GA.l (g : GA) : List Addr := g.d :: (g.side false ++ g.side true)
theorem GA.memS (g : GA) (b : Bool) : ∀ a ∈ g.side b, a ∈ g.l := by
  intro a ha
  refine List.mem_cons_of_mem _ (List.mem_append.mpr ?_)
  cases b with
  | false => exact .inl ha
  | true => exact .inr ha
theorem GA.memD (g : GA) (b : Bool) : ∀ a ∈ g.d :: g.side b, a ∈ g.l := by
  intro a ha
  rcases List.mem_cons.mp ha with rfl | ha
  · exact List.mem_cons_self
  · exact g.memS b a ha
theorem GA.mem_of (g : GA) {a : Addr} (h : a ∈ g.l) : a = g.d ∨ ∃ b, a ∈ g.side b := by
  rcases List.mem_cons.mp h with h | h
  · exact .inl h
  · rcases List.mem_append.mp h with h | h
    · exact .inr ⟨false, h⟩
    · exact .inr ⟨true, h⟩
def bi : Bool → Int
  | false => 0
  | true => 1
theorem bi_of {r : Int} (h0 : 0 ≤ r) (h1 : r < 2) : ∃ b, r = bi b := by
  have : r = 0 ∨ r = 1 := by omega
  rcases this with rfl | rfl
  · exact ⟨false, rfl⟩
  · exact ⟨true, rfl⟩
theorem at_bi {f : Bool → V} (b : Bool) : atI [f false, f true] (bi b) = some (f b) := by
  cases b with
  | false => exact atI_nat (j := 0) rfl
  | true => exact atI_nat (j := 1) rfl
def updB (S : Bool → Wo) (b : Bool) (s : Wo) : Bool → Wo := fun c => if c = b then s else S c
theorem updB_same {S : Bool → Wo} {b : Bool} {s : Wo} : updB S b s b = s := if_pos rfl
theorem updB_ne {S : Bool → Wo} {b c : Bool} {s : Wo} (h : c ≠ b) : updB S b s c = S c := if_neg h
structure WS (P : Program) (w : World) (K : PySem.W.Frag) (H : Hp) (g : GA) (ws : List NestedKey) (S : Bool → Wo) (B : Int) : Prop where
  lw : H g.lw = some (.lst [.ref (g.F false).o, .ref (g.F true).o])
  lm : H g.lm = some (.lst [.ref (g.M false).m, .ref (g.M true).m])
  W : ∀ b, WoodAt P w K H (g.F b) (S b)
  M : ∀ b, ModAt H (g.M b) (S b)
  wld : WldAt P w H g.d ws
  G : ∀ b, Good ws (S b)
  ap1 : ∀ b c, Apart (g.F b).l (g.M c).l
  ap2 : ∀ b c, b ≠ c → Apart (g.F b).l (g.F c).l
  ap3 : ∀ b c, b ≠ c → Apart (g.M b).l (g.M c).l
  apd : ∀ b, g.d ∉ g.side b
  bnd : ∀ b, (S b).next ≤ B
  wsl : (ws.length : Int) ≤ (S false).next + (S true).next
section
variable {P : Program} {w : World} {K : PySem.W.Frag} {mg : Str → Option Value} {base : Heap}
variable {H H' : Hp} {g : GA} {ws : List NestedKey} {S : Bool → Wo} {B : Int} {f : Addr}
theorem WS.lstN (Z : WS P w K H g ws S B) {x : Addr} {xs : List V} (h : H x = some (.lst xs)) : x ∉ g.l := by
  intro m
  rcases g.mem_of m with rfl | ⟨b, m⟩
  · obtain ⟨ys, N, _⟩ := Z.wld.ex
    rw [N.at_] at h
    cases h
  · rcases List.mem_append.mp m with m | m
    · exact (Z.W b).lst h m
    · exact (Z.M b).lst h m
theorem WS.fresh (Z : WS P w K H g ws S B) {x : Addr} (h : H x = none) : x ∉ g.l := by
  intro m
  rcases g.mem_of m with rfl | ⟨b, m⟩
  · obtain ⟨ys, N, _⟩ := Z.wld.ex
    rw [N.at_] at h
    cases h
  · rcases List.mem_append.mp m with m | m
    · exact (Z.W b).fresh h m
    · exact (Z.M b).fresh h m
theorem WS.kp (Z : WS P w K H g ws S B) {X : List Addr} (k : Kp X H H') (h : ∀ a ∈ g.l, a ∉ X) (h1 : g.lw ∉ X) (h2 : g.lm ∉ X) : WS P w K H' g ws S B :=
  { Z with
    lw := k.at Z.lw h1
    lm := k.at Z.lm h2
    W := fun b => (Z.W b).kp k fun a ha => h a (g.memS b a (List.mem_append_left _ ha))
    M := fun b => (Z.M b).kp k fun a ha => h a (g.memS b a (List.mem_append_right _ ha))
    wld := Z.wld.kp k (h _ List.mem_cons_self) }
theorem WS.same (Z : WS P w K H g ws S B) (k : Same H H') : WS P w K H' g ws S B := Z.kp (X := []) (.same k) (by simp) (by simp) (by simp)
theorem WS.kpf (Z : WS P w K H g ws S B) (hf : FeedAt H f) (k : Kp [f] H H') : WS P w K H' g ws S B := by
  obtain ⟨x, b, hx⟩ := hf
  refine Z.kp k (fun a ha z => Z.lstN hx (by rw [← List.mem_singleton.mp z]; exact ha)) (fun z => ?_) (fun z => ?_)
  · rw [← List.mem_singleton.mp z, Z.lw] at hx
    cases hx
  · rw [← List.mem_singleton.mp z, Z.lm] at hx
    cases hx
theorem WS.upd (Z : WS P w K H g ws S B) (b : Bool) {S1 : Wo} {ws' : List NestedKey} {B' : Int} (k : Kp (g.d :: g.side b) H H') (W1 : WoodAt P w K H' (g.F b) S1) (M1 : ModAt H' (g.M b) S1) (wd : WldAt P w H' g.d ws') (G1 : Good ws' S1)
    (old : ∀ (i : Nat) k, ws[i]? = some k → ws'[i]? = some k) (hB : B ≤ B') (h1 : S1.next ≤ B') (hw : (ws'.length : Int) - ws.length ≤ S1.next - (S b).next) : WS P w K H' g ws' (updB S b S1) B' := by
  have nl : ∀ {x : Addr} {xs : List V}, H x = some (.lst xs) → x ∉ g.d :: g.side b := fun h m => Z.lstN h (g.memD b _ m)
  have apart : ∀ c, c ≠ b → ∀ a ∈ g.side c, a ∉ g.d :: g.side b := by
    intro c hc a ha m
    rcases List.mem_cons.mp m with rfl | m
    · exact Z.apd c ha
    · rcases List.mem_append.mp ha with ha | ha <;> rcases List.mem_append.mp m with m | m
      · exact Z.ap2 c b hc a ha m
      · exact Z.ap1 c b a ha m
      · exact Z.ap1 b c a m ha
      · exact Z.ap3 c b hc a ha m
  refine { lw := k.at Z.lw (nl Z.lw), lm := k.at Z.lm (nl Z.lm), W := fun c => ?_, M := fun c => ?_, wld := wd, G := fun c => ?_, ap1 := Z.ap1, ap2 := Z.ap2, ap3 := Z.ap3, apd := Z.apd, bnd := fun c => ?_, wsl := ?_ }
  · by_cases hc : c = b
    · subst hc
      rw [updB_same]
      exact W1
    · rw [updB_ne hc]
      exact (Z.W c).kp k fun a ha => apart c hc a (List.mem_append_left _ ha)
  · by_cases hc : c = b
    · subst hc
      rw [updB_same]
      exact M1
    · rw [updB_ne hc]
      exact (Z.M c).kp k fun a ha => apart c hc a (List.mem_append_right _ ha)
  · by_cases hc : c = b
    · subst hc
      rw [updB_same]
      exact G1
    · rw [updB_ne hc]
      exact (Z.G c).mono old G1.wnd
  · by_cases hc : c = b
    · subst hc
      rw [updB_same]
      exact h1
    · rw [updB_ne hc]
      have := Z.bnd c
      omega
  · have := Z.wsl
    cases b with
    | false =>
      show (ws'.length : Int) ≤ S1.next + (S true).next
      omega
    | true =>
      show (ws'.length : Int) ≤ (S false).next + S1.next
      omega
theorem WS.next0 (Z : WS P w K H g ws S B) (b : Bool) : 0 ≤ (S b).next := by
  have := (Z.G b).len
  omega
theorem atI_back {xs : List Int} {r : Int} (h0 : 0 ≤ r) (h1 : r < xs.length) : ∃ v, atI (xs.map V.int) (-1 - r) = some (.int v) ∧ v ∈ xs := by
  have hlt : ((-1 - r) + (xs.length : Int)).toNat < xs.length := by omega
  refine ⟨xs[((-1 - r) + (xs.length : Int)).toNat]'hlt, ?_, List.getElem_mem hlt⟩
  unfold atI ixN
  rw [if_neg (by omega), if_pos (by rw [List.length_map]; omega)]
  show (xs.map V.int)[((-1 - r) + ((xs.map V.int).length : Int)).toNat]? = _
  rw [List.length_map, List.getElem?_map, List.getElem?_eq_getElem hlt]
  rfl
/-- elif name in names: .. -/
def tElif (P : Program) (w : World) (K : PySem.W.Frag) (g : GA) (ws : List NestedKey) (S : Bool → Wo) (B : Int) (f : Addr) : TS := fun D σ H => ∃ (b : Bool) (nm : Str) (x5 : Option V), σ = [some (.ref g.lw), some (.ref g.lm), some (.ref f), some (.int (bi b)), some (.str nm), x5] ∧ nm ∈ namesL ∧ WS P w K H g ws S B ∧ FeedAt H f ∧
  ∀ H' S', Kp g.l H H' → WS P w K H' g ws S' B → FeedAt H' f → D.nx σ H'
theorem ModAt.names {H : Hp} {F : MF} {S : Wo} (M : ModAt H F S) (ns : Nms) : ModAt (_root_.L2.upd H F.nm (.dK (calledK ns))) F { S with names := ns } := by
  have ⟨⟨m_ids, m_el, m_pl, m_nm⟩, ⟨ids_el, ids_pl, ids_nm⟩, ⟨el_pl, el_nm⟩, pl_nm⟩ := F.ne M.nd
  have kN : Kp [F.nm] H (_root_.L2.upd H F.nm (.dK (calledK ns))) := Kp.put M.nm (fun z => z) (by simp)
  obtain ⟨kv1, g1, gl1, g1e⟩ := M.el
  obtain ⟨kv2, g2, gl2, g2e⟩ := M.pl
  refine ⟨(upd_ne m_nm).trans M.obj, (upd_ne ids_nm).trans M.ids, ⟨kv1, (upd_ne el_nm).trans g1, gl1, fun e he => ?_⟩, ⟨kv2, (upd_ne pl_nm).trans g2, gl2, fun e he => ?_⟩, upd_same, M.nd⟩
  · obtain ⟨b, h1, h2⟩ := g1e e he
    exact ⟨b, h1, kN.tup h2⟩
  · obtain ⟨b, v, h1, h2, h3⟩ := g2e e he
    exact ⟨b, v, h1, kN.tup h2, h3.kp kN⟩
def spNamedL (P : Program) (w : World) (K : PySem.W.Frag) : Sp := fun vs H Q _ => ∃ g ws S B f, vs = [.ref g.lw, .ref g.lm, .ref f] ∧ WS P w K H g ws S B ∧ FeedAt H f ∧ B < 100000 ∧
  ∀ H' S', Kp (f :: g.l) H H' → FeedAt H' f → WS P w K H' g ws S' B → Q .non H'
theorem ok_namedL (T : Tx K mg) : OkG P w K mg base CX0 5 "_law_named" ["_law_woods", "_law_models", "_law_feed_here"] (spNamedL P w K) := by
  refine T.fLawNamed.ok scLawNamed (fun vs H Q E h => ?_) (fun cdv A outer s H vs Q E hr h => ?_)
  · obtain ⟨g, ws, S, B, f, rfl, _⟩ := h
    rfl
  · obtain ⟨g, ws, S, B, f, rfl, Z, hf, hB, q⟩ := h
    refine ⟨_, PSs.nox (pss_cons (ps_set (i := 3) scLawNamed.nd rfl (Or.inl rfl) (pcall T.dLawTake (ok_take T) (hr.mono (by decide)) pass0 (pa_cons (pv 2) (pa_cons pe_int pa_nil))))
      (pss_cons (ps_set (i := 4) scLawNamed.nd rfl (Or.inl rfl) (pe_ix ix_list (pe_lst (pa_cons pe_str (pa_cons pe_str (pa_cons pe_str pa_nil)))) (pcall T.dLawTake (ok_take T) (hr.mono (by decide)) pass0 (pa_cons (pv 2) (pa_cons pe_int pa_nil))) (fun _ _ => rfl)))
      (pss_cons (ps_set (i := 5) scLawNamed.nd rfl (Or.inl rfl) (pe_callB (call_sortDI rfl) (by rfl) T.b_sorted (by decide +kernel) (pa_cons (pe_dget (hu_of hr) (pe_ix ix_list (pv 1) (pv 3) (fun _ _ => rfl)) pe_str (fun _ _ => rfl)) pa_nil)))
      (pss_one (ps_if (PW.pt (pw_and (pt_neNil hr.units (pv 5)) (pw_and1 (pt_cmpR op_gt (pcall T.dLawTake (ok_take T) (hr.mono (by decide)) pass0 (pa_cons (pv 2) (pa_cons pe_int pa_nil))) pe_int (nomark _)))))
        (pss_cons (ps_dput (hu_of hr) (pe_dget (hu_of hr) (pe_ix ix_list (pv 1) (pv 3) (fun _ _ => rfl)) pe_str (fun _ _ => rfl)) (pv 4)
            (pe_ix ix_list (pv 5) (pe_op op_sub (pe_un un_neg pe_int) (pe_op op_mul (pcall T.dLawTake (ok_take T) (hr.mono (by decide)) pass0 (pa_cons (pv 2) (pa_cons (pe_callB call_len_seq (by rfl) T.b_len PySem.boot_len (pa_cons (pv 5) pa_nil)) pa_nil)))
              (pcall T.dLawTake (ok_take T) (hr.mono (by decide)) pass0 (pa_cons (pv 2) (pa_cons pe_int pa_nil))))) (fun _ _ => rfl)) rfl)
        (pss_one (ps_expr (pmeth (pe_ix ix_list (pv 0) (pv 3) (fun _ _ => rfl)) T.dWoodSetName (ok_set_name T) (hr.mono (by decide)) pass0 (pa_cons (pv 4) (pa_cons (pe_dget (hu_of hr) (pe_dget (hu_of hr) (pe_ix ix_list (pv 1) (pv 3) (fun _ _ => rfl)) pe_str (fun _ _ => rfl)) (pv 4) (fun _ _ => rfl)) pa_nil))))))
        (pss_imp (t' := tElif P w K g ws S B f) (pss_one (ps_if (pt_cmp (pc_din (hu_of hr) (pv 4) (pe_dget (hu_of hr) (pe_ix ix_list (pv 1) (pv 3) (fun _ _ => rfl)) pe_str (fun _ _ => rfl))) rfl)
          (pss_cons (ps_expr (pe_dpop1 (pe_dget (hu_of hr) (pe_ix ix_list (pv 1) (pv 3) (fun _ _ => rfl)) pe_str (fun _ _ => rfl)) (pv 4) ⟨rfl, rfl, rfl, rfl⟩))
          (pss_one (ps_expr (pmeth (pe_ix ix_list (pv 0) (pv 3) (fun _ _ => rfl)) T.dWoodDropName (ok_drop_name T) hr pass0 (pa_cons (pv 4) pa_nil))))) pss_nil)) ?_)))))), ?_⟩
    · rintro D σ Hc ⟨b, nm, x5, rfl, hnm, Zc, hfc, k⟩
      have G := Zc.G b
      have am : atI [V.ref (g.M false).m, V.ref (g.M true).m] (bi b) = some (.ref (g.M b).m) := at_bi (f := fun b => V.ref (g.M b).m) b
      have aw : atI [V.ref (g.F false).o, V.ref (g.F true).o] (bi b) = some (.ref (g.F b).o) := at_bi (f := fun b => V.ref (g.F b).o) b
      have dgm : DGet Hc (g.M b).m (.str "names") (some (.ref (g.M b).nm)) := by rw [← mo_names]; exact DGet.k (k := .inr "names") (Zc.M b).obj
      refine ⟨_, rfl, _, rfl, _, rfl, g.lm, _, _, _, rfl, rfl, SqL.of Zc.lm, am, (g.M b).m, .ref (g.M b).nm, rfl, dgm, (g.M b).nm, _, rfl, DGet.k (k := .inr nm) (Zc.M b).nm, _, rfl, ?_⟩
      cases hgn : getN (S b).names nm with
      | none =>
        have hv : valV (calledK (S b).names) (.inr nm) = none := by rw [calledK_get, hgn]; rfl
        rw [hv]
        exact iteF (k Hc S Kp.refl Zc hfc)
      | some n =>
        have hv : valV (calledK (S b).names) (.inr nm) = some (.int n) := by rw [calledK_get, hgn]; rfl
        rw [hv]
        refine iteT ⟨_, rfl, _, rfl, g.lm, _, _, _, rfl, rfl, SqL.of Zc.lm, am, (g.M b).m, .ref (g.M b).nm, rfl, dgm, (g.M b).nm, rfl, .inl ⟨_, .inl (Zc.M b).nm⟩, _, rfl, _, .inr nm, _, (Zc.M b).nm, rfl, hv, ?_⟩
        rw [calledK_drop]
        let H1 : Hp := upd Hc (g.M b).nm (.dK (calledK (dropN (S b).names nm)))
        have k1 : Kp [(g.M b).nm] Hc H1 := Kp.put (Zc.M b).nm (fun z => z) (by simp)
        have M1 : ModAt H1 (g.M b) ((S b).dropName nm) := (Zc.M b).names _
        have W1 : WoodAt P w K H1 (g.F b) (S b) := (Zc.W b).kp k1 fun a ha z => Zc.ap1 b b a ha (by rw [List.mem_singleton.mp z]; simp [MF.l])
        obtain ⟨dx, ho⟩ := W1.obj
        have nlw : g.lw ∉ [(g.M b).nm] := fun z => Zc.lstN Zc.lw (g.memS b _ (List.mem_append_right _ (by rw [List.mem_singleton.mp z]; simp [MF.l])))
        refine ⟨_, rfl, _, rfl, g.lw, _, _, _, rfl, rfl, SqL.of (k1.at Zc.lw nlw), aw, _, _, _, rfl, ho, rfl, _, rfl, g.F b, S b, nm, n, rfl, W1, hnm, hgn, fun H2 k2 W2 => ?_⟩
        have kS : Kp (g.side b) Hc H2 := (k1.mono fun a ha => List.mem_append_right _ (by rw [List.mem_singleton.mp ha]; simp [MF.l])).trans (k2.mono fun a ha => List.mem_append_left _ ha)
        have kD : Kp (g.d :: g.side b) Hc H2 := kS.mono fun a ha => List.mem_cons_of_mem _ ha
        obtain ⟨x, bb, hx⟩ := hfc
        refine k H2 _ (kS.mono (g.memS b)) (Zc.upd b kD W2 (M1.kp k2 fun a ha z => Zc.ap1 b b a z ha) (Zc.wld.kp kS (Zc.apd b)) (Good.dropName G) (fun _ _ h => h) (Int.le_refl _) (Zc.bnd b) (by show (ws.length : Int) - ws.length ≤ (S b).next - (S b).next; omega)) ⟨x, bb, kS.at hx fun z => Zc.lstN hx (g.memS b _ z)⟩
    · obtain ⟨x, b0, hx⟩ := id hf
      refine ⟨_, rfl, f, x, b0, 2, rfl, hx, by omega, by omega, fun r y r0 r1 => ?_⟩
      obtain ⟨b, rfl⟩ := bi_of r0 r1
      have k1 : Kp [f] H (upd H f (.lst [.int y, .bl b0])) := FeedAt.put hx
      have hf1 : (upd H f (.lst [.int y, .bl b0])) f = some (.lst [.int y, .bl b0]) := upd_same
      have Z1 := Z.kpf hf k1
      generalize upd H f (.lst [.int y, .bl b0]) = H1 at k1 hf1 Z1
      refine ⟨by show 3 ≤ sizeLine; decide, fun l nl => ?_⟩
      have s2 : Same H1 (upd H1 l (.lst (namesL.map V.str))) := Same.new nl
      have hl2 : (upd H1 l (.lst (namesL.map V.str))) l = some (.lst (namesL.map V.str)) := upd_same
      have f_l : f ≠ l := ne_of_none hf1 nl
      refine ⟨_, rfl, f, y, b0, 3, rfl, s2 _ _ hf1, by omega, by omega, fun r3 y3 r30 r31 => ?_⟩
      obtain ⟨n3, rfl, hn3⟩ := int_nat (n := 3) r30 r31
      have k3 : Kp [f] (upd H1 l (.lst (namesL.map V.str))) (upd (upd H1 l (.lst (namesL.map V.str))) f (.lst [.int y3, .bl b0])) := FeedAt.put (s2 _ _ hf1)
      have hk3 : namesL[n3]? = some (namesL[n3]'hn3) := List.getElem?_eq_getElem hn3
      have hnm : namesL[n3]'hn3 ∈ namesL := List.getElem_mem hn3
      refine ⟨l, namesL.map V.str, _, .str (namesL[n3]'hn3), rfl, rfl, SqL.of ((upd_ne f_l.symm).trans hl2), atI_nat (j := n3) (by rw [List.getElem?_map, hk3]; rfl), ?_⟩
      generalize namesL[n3]'hn3 = nm at hnm
      have Z3 := (Z1.same s2).kpf ⟨y, b0, s2 _ _ hf1⟩ k3
      let H3 : Hp := upd (upd H1 l (.lst (namesL.map V.str))) f (.lst [.int y3, .bl b0])
      have hf3 : H3 f = some (.lst [.int y3, .bl b0]) := upd_same
      have k03 : Kp [f] H H3 := (k1.trans (.same s2)).trans k3
      have G := Z.G b
      have len0 := G.len
      have bnd := Z.bnd b
      have eq_m : ∀ {Hx : Hp}, WS P w K Hx g ws S B → atI [V.ref (g.M false).m, V.ref (g.M true).m] (bi b) = some (.ref (g.M b).m) := fun _ => at_bi (f := fun b => V.ref (g.M b).m) b
      have am : atI [V.ref (g.M false).m, V.ref (g.M true).m] (bi b) = some (.ref (g.M b).m) := at_bi (f := fun b => V.ref (g.M b).m) b
      have aw : atI [V.ref (g.F false).o, V.ref (g.F true).o] (bi b) = some (.ref (g.F b).o) := at_bi (f := fun b => V.ref (g.F b).o) b
      refine ⟨_, rfl, _, rfl, g.lm, _, _, _, rfl, rfl, SqL.of Z3.lm, am, (g.M b).m, .ref (g.M b).ids, rfl, by rw [← mo_makes]; exact DGet.k (k := .inr "makes") (Z3.M b).obj, (g.M b).ids, _, _, rfl, .inl (Z3.M b).ids, idK_keys, fun ys t hp hs nt => ?_⟩
      have eys : ys = (S b).nums := List.Perm.eq_of_pairwise (le := fun a b : Int => a ≤ b) (fun a b _ _ x y => Int.le_antisymm x y) hs (G.nums_rise.imp Int.le_of_lt) hp
      rw [eys]
      have s4 : Same H3 (upd H3 t (.lst ((S b).nums.map V.int))) := Same.new nt
      have ht4 : (upd H3 t (.lst ((S b).nums.map V.int))) t = some (.lst ((S b).nums.map V.int)) := upd_same
      have f_t : f ≠ t := ne_of_none hf3 nt
      refine ⟨t, _, rfl, ht4, fun H5 s5 => ?_⟩
      have s45 : Same H3 H5 := s4.trans s5
      have Z5 : WS P w K H5 g ws S B := WS.same Z3 s45
      have hf5 : H5 f = some (.lst [.int y3, .bl b0]) := s45 _ _ hf3
      have ht5 := s5 _ _ ht4
      have k05 : Kp [f] H H5 := k03.trans (.same s45)
      by_cases hne : (S b).nums = []
      · refine iteN (by rw [hne]; rfl) ⟨b, nm, _, rfl, hnm, Z5, ⟨y3, b0, hf5⟩, fun H6 S6 k6 Z6 hf6 => ?_⟩
        exact q H6 S6 ((k05.mono (by simp)).trans (k6.mono fun a ha => List.mem_cons_of_mem _ ha)) hf6 Z6
      · refine iteC ?_ ?_
        · cases hnm : (S b).nums with
          | nil => exact absurd hnm hne
          | cons a r => rfl
        refine ⟨_, rfl, f, y3, b0, 4, rfl, hf5, by omega, by omega, fun r6 y6 _ _ => ?_⟩
        have k6 : Kp [f] H5 (upd H5 f (.lst [.int y6, .bl b0])) := FeedAt.put hf5
        have hf6 : (upd H5 f (.lst [.int y6, .bl b0])) f = some (.lst [.int y6, .bl b0]) := upd_same
        have Z6 := Z5.kpf ⟨y3, b0, hf5⟩ k6
        have ht6 := k6.at ht5 (by simpa using f_t.symm)
        have k06 := k05.trans k6
        generalize upd H5 f (.lst [.int y6, .bl b0]) = H6 at k6 hf6 Z6 ht6 k06
        refine ⟨_, _, rfl, rfl, _, rfl, ite2 (fun _ => ?_) (fun _ => ?_)⟩
        · have npos : 0 < (S b).nums.length := List.length_pos_iff.mpr hne
          have nl2 := nums_len (S := S b)
          refine ⟨_, rfl, _, rfl, _, rfl, _, rfl, _, _, rfl, .inl (SqL.of ht6), f, y6, b0, _, rfl, hf6, by rw [List.length_map]; omega, by rw [List.length_map]; omega, fun r7 y7 r70 r71 => ?_⟩
          rw [List.length_map] at r71
          have k7 : Kp [f] H6 (upd H6 f (.lst [.int y7, .bl b0])) := FeedAt.put hf6
          have hf7 : (upd H6 f (.lst [.int y7, .bl b0])) f = some (.lst [.int y7, .bl b0]) := upd_same
          have Z7 := Z6.kpf ⟨y6, b0, hf6⟩ k7
          have ht7 := k7.at ht6 (by simpa using f_t.symm)
          have k07 := k06.trans k7
          generalize upd H6 f (.lst [.int y7, .bl b0]) = H7 at k7 hf7 Z7 ht7 k07
          refine ⟨_, rfl, f, y7, b0, 2, rfl, hf7, by omega, by omega, fun r8 y8 r80 r81 => ?_⟩
          have k8 : Kp [f] H7 (upd H7 f (.lst [.int y8, .bl b0])) := FeedAt.put hf7
          have hf8 : (upd H7 f (.lst [.int y8, .bl b0])) f = some (.lst [.int y8, .bl b0]) := upd_same
          have Z8 := Z7.kpf ⟨y7, b0, hf7⟩ k8
          have ht8 := k8.at ht7 (by simpa using f_t.symm)
          have k08 := k07.trans k8
          generalize upd H7 f (.lst [.int y8, .bl b0]) = H8 at k8 hf8 Z8 ht8 k08
          have hrr : 0 ≤ r7 * r8 ∧ r7 * r8 < (S b).nums.length := by
            have : r8 = 0 ∨ r8 = 1 := by omega
            rcases this with rfl | rfl
            · rw [Int.mul_zero]
              omega
            · rw [Int.mul_one]
              omega
          obtain ⟨v, hv, hvm⟩ := atI_back hrr.1 hrr.2
          refine ⟨_, _, rfl, rfl, .inl ⟨by omega, by omega⟩, _, _, rfl, rfl, t, _, _, .int v, rfl, rfl, SqL.of ht8, hv, ?_⟩
          have dgm : DGet H8 (g.M b).m (.str "names") (some (.ref (g.M b).nm)) := by rw [← mo_names]; exact DGet.k (k := .inr "names") (Z8.M b).obj
          have n3 := G.names3
          refine ⟨_, rfl, _, rfl, g.lm, _, _, _, rfl, rfl, SqL.of Z8.lm, am, (g.M b).m, .ref (g.M b).nm, rfl, dgm, _, rfl, (g.M b).nm, _, rfl, DPut.k (k := .inr nm) (Z8.M b).nm (by unfold calledK; rw [List.length_map, sizeLine_eq]; omega), ?_⟩
          rw [calledK_put]
          let H9 : Hp := upd H8 (g.M b).nm (.dK (calledK (setN (S b).names nm v)))
          have k9 : Kp [(g.M b).nm] H8 H9 := Kp.put (Z8.M b).nm (fun z => z) (by simp)
          have M9 : ModAt H9 (g.M b) ((S b).setName nm v) := (Z8.M b).names _
          have W9 : WoodAt P w K H9 (g.F b) (S b) := (Z8.W b).kp k9 fun a ha z => Z8.ap1 b b a ha (by rw [List.mem_singleton.mp z]; simp [MF.l])
          obtain ⟨dx, ho⟩ := W9.obj
          have nin : ∀ {x : Addr} {xs : List V}, H8 x = some (.lst xs) → x ∉ [(g.M b).nm] := fun h z => Z8.lstN h (g.memS b _ (List.mem_append_right _ (by rw [List.mem_singleton.mp z]; simp [MF.l])))
          have hv9 : valV (calledK (setN (S b).names nm v)) (.inr nm) = some (.int v) := by rw [calledK_get, getN_set, if_pos rfl]; rfl
          have dgm9 : DGet H9 (g.M b).m (.str "names") (some (.ref (g.M b).nm)) := by rw [← mo_names]; exact DGet.k (k := .inr "names") M9.obj
          refine ⟨_, rfl, _, rfl, g.lw, _, _, _, rfl, rfl, SqL.of (k9.at Z8.lw (nin Z8.lw)), aw, _, _, _, rfl, ho, rfl, _, rfl, _, rfl, _, rfl, g.lm, _, _, _, rfl, rfl, SqL.of (k9.at Z8.lm (nin Z8.lm)), am, (g.M b).m, .ref (g.M b).nm, rfl, dgm9, _, rfl, (g.M b).nm, .int v, rfl, by rw [← hv9]; exact DGet.k (k := .inr nm) M9.nm, ?_⟩
          refine ⟨g.F b, S b, nm, v, rfl, W9, hnm, hvm, by omega, fun H10 k10 W10 => ?_⟩
          have kS : Kp (g.side b) H8 H10 := (k9.mono fun a ha => List.mem_append_right _ (by rw [List.mem_singleton.mp ha]; simp [MF.l])).trans (k10.mono fun a ha => List.mem_append_left _ ha)
          have kD : Kp (g.d :: g.side b) H8 H10 := kS.mono fun a ha => List.mem_cons_of_mem _ ha
          refine q H10 _ ((k08.mono (by simp)).trans (kS.mono fun a ha => List.mem_cons_of_mem _ (g.memS b a ha))) ⟨y8, b0, kS.at hf8 fun z => Z8.lstN hf8 (g.memS b _ z)⟩ (Z8.upd b kD W10 (M9.kp k10 fun a ha z => Z8.ap1 b b a z ha) (Z8.wld.kp kS (Z8.apd b)) (Good.setName G hnm hvm) (fun _ _ h => h) (Int.le_refl _) (Z8.bnd b) (by show (ws.length : Int) - ws.length ≤ (S b).next - (S b).next; omega))
        · refine ⟨b, nm, _, rfl, hnm, Z6, ⟨y6, b0, hf6⟩, fun H7 S7 k7 Z7 hf7 => ?_⟩
          exact q H7 S7 ((k06.mono (by simp)).trans (k7.mono fun a ha => List.mem_cons_of_mem _ ha)) hf7 Z7
end
end Mw

/-! _law_put_in. -/
namespace Mw
open PySem PySem.Spec PyProof.Rows L2
section
variable {P : Program} {w : World} {K : PySem.W.Frag} {mg : Str → Option Value} {base : Heap}
variable {H : Hp} {g : GA} {ws : List NestedKey} {S : Bool → Wo} {B : Int}
theorem wPut_mem {ws : List NestedKey} {k : NestedKey} : ∃ i : Nat, (wPut ws k)[i]? = some k := by
  have : k ∈ wPut ws k := by
    unfold wPut
    split
    · assumption
    · exact List.mem_append_right _ (List.mem_singleton.mpr rfl)
  exact List.getElem?_of_mem this
theorem put_next {S : Wo} {st : NestedKey} {el : List Int} {wd : Str} {ix : Int} {ei : List Int} : (S.put st el wd ix ei).1.next ≤ S.next + 1 := by
  unfold Wo.put
  split
  · show S.next ≤ S.next + 1
    omega
  · exact Int.le_refl _
/-- the same make put into a wood and into its model -/
theorem putB (Z : WS P w K H g ws S B) (hB : B < 100000) (b : Bool) {st : NestedKey} {v : V} {el : List Int} {t : Addr} {wd : Str} (hd : Dt H st v) (gs : GoodStand st) (ht : H t = some (.tup (el.map V.int))) (hel : ∀ k ∈ el, k ∈ (S b).nums) (hel3 : el.length ≤ 3) :
    ∃ (n : Int) (ws' : List NestedKey) (S1 : Wo),
      (∀ (Q1 : VK) (E : XK), (∀ H2, Kp (g.F b).l H H2 → WoodAt P w K H2 (g.F b) S1 → Q1 (.int n) H2) → spPut P w K [.ref (g.F b).o, v, .ref t, .str wd] H Q1 E) ∧
      (∀ (H2 : Hp) (t2 : Addr) (Q2 : VK) (E : XK), Kp (g.F b).l H H2 → WoodAt P w K H2 (g.F b) S1 → H2 t2 = some (.tup (el.map V.int)) → (∀ H3, Kp (g.d :: g.side b) H H3 → WS P w K H3 g ws' (updB S b S1) (B + 1) → Q2 (.int n) H3) →
        spPutL P w [.ref g.d, .ref (g.M b).m, v, .ref t2, .str wd] H2 Q2 E) := by
  have G := Z.G b
  have len0 := G.len
  have bnd := Z.bnd b
  have b0 := Z.bnd false
  have b1 := Z.bnd true
  have wsl := Z.wsl
  obtain ⟨ix, hix⟩ := wPut_mem (ws := ws) (k := mk3 st (el.map (S b).idAt) wd)
  have G2 : Good (wPut ws (mk3 st (el.map (S b).idAt) wd)) (S b) := G.mono (fun _ _ => wPut_old) (wPut_nd G.wnd)
  have G1 := (G2.put (wd := wd) (id := (ix : Int)) gs (G.elds_of hel) hel3 (by omega) (by simpa using hix)).1
  have hnx := put_next (S := S b) (st := st) (el := el) (wd := wd) (ix := ix) (ei := el.map (S b).idAt)
  have hgrow : ((wPut ws (mk3 st (el.map (S b).idAt) wd)).length : Int) - ws.length ≤ ((S b).put st el wd ix (el.map (S b).idAt)).1.next - (S b).next := by
    have hf := G2.find_id (wd := wd) (st := st) (G.elds_of hel) (by omega : (0 : Int) ≤ (ix : Int)) (by simpa using hix) (fun _ _ h => h) (wPut_nd G.wnd)
    unfold Wo.put
    cases q : (S b).find st el wd with
    | none =>
      have := wPut_len (ws := ws) (k := mk3 st (el.map (S b).idAt) wd)
      show _ ≤ (S b).next + 1 - (S b).next
      omega
    | some n =>
      rw [q] at hf
      obtain ⟨e, he, _⟩ := Option.map_eq_some_iff.mp hf.symm
      obtain ⟨e1, e2⟩ := findD he
      have w1 := (G.wid e e2).2
      have w2 := (G2.wid e e2).2
      rw [e1] at w1 w2
      have : worldK e = mk3 st (el.map (S b).idAt) wd := by
        rw [show ((ix : Int)).toNat = ix from rfl, hix] at w2
        exact (Option.some.inj w2).symm
      have hm : mk3 st (el.map (S b).idAt) wd ∈ ws := by
        rw [← this]
        exact List.mem_of_getElem? w1
      have : wPut ws (mk3 st (el.map (S b).idAt) wd) = ws := if_pos hm
      rw [this]
      show (ws.length : Int) - ws.length ≤ (S b).next - (S b).next
      omega
  refine ⟨((S b).put st el wd ix (el.map (S b).idAt)).2, wPut ws (mk3 st (el.map (S b).idAt) wd), ((S b).put st el wd ix (el.map (S b).idAt)).1, fun Q1 E k => ?_, fun H2 t2 Q2 E k2 W2 ht2 k => ?_⟩
  · exact ⟨g.F b, S b, st, v, el, t, wd, ix, el.map (S b).idAt, rfl, Z.W b, hd, gs, ht, hel, by omega, fun e he => (G.rng e he).2, k⟩
  · have M2 : ModAt H2 (g.M b) (S b) := (Z.M b).kp k2 fun a ha z => Z.ap1 b b a z ha
    have D2 : WldAt P w H2 g.d ws := Z.wld.kp k2 fun z => Z.apd b (List.mem_append_left _ z)
    refine ⟨g.d, ws, g.M b, S b, st, v, el, t2, wd, rfl, D2, by cases b <;> omega, M2, G, by omega, hd.kp k2, gs, ht2, hel, by omega, fun H3 jx hjx k3 D3 M3 => ?_⟩
    have ej : jx = ix := by
      obtain ⟨a1, c1⟩ := List.getElem?_eq_some_iff.mp hix
      obtain ⟨a2, c2⟩ := List.getElem?_eq_some_iff.mp hjx
      exact (List.getElem_inj (wPut_nd G.wnd)).mp (c2.trans c1.symm)
    subst ej
    have kk : Kp (g.d :: g.side b) H H3 := (k2.mono fun a ha => List.mem_cons_of_mem _ (List.mem_append_left _ ha)).trans (k3.mono fun a ha => by
      rcases List.mem_cons.mp ha with rfl | ha
      · exact List.mem_cons_self
      · exact List.mem_cons_of_mem _ (List.mem_append_right _ ha))
    refine k H3 kk (Z.upd b kk (W2.kp k3 fun a ha z => ?_) M3 D3 G1 (fun _ _ h => wPut_old h) (by omega) (by omega) hgrow)
    rcases List.mem_cons.mp z with rfl | z
    · exact Z.apd b (List.mem_append_left _ ha)
    · exact Z.ap1 b b a ha z
def spPutIn (P : Program) (w : World) (K : PySem.W.Frag) : Sp := fun vs H Q _ => ∃ g ws S B f b, vs = [.ref g.lw, .ref g.lm, .ref g.d, .int (bi b), .ref f] ∧ WS P w K H g ws S B ∧ FeedAt H f ∧ B < 100000 ∧
  ∀ H' ws' S', Kp (f :: g.l) H H' → FeedAt H' f → WS P w K H' g ws' S' (B + 1) → Q (.bl true) H'
theorem ok_put_in (T : Tx K mg) : OkG P w K mg base CX0 10 "_law_put_in" ["_law_woods", "_law_models", "_law_world", "_law_at", "_law_feed_here"] (spPutIn P w K) := by
  refine T.fLawPutIn.ok scLawPutIn (fun vs H Q E h => ?_) (fun cdv A outer s H vs Q E hr h => ?_)
  · obtain ⟨g, ws, S, B, f, b, rfl, _⟩ := h
    rfl
  · obtain ⟨g, ws, S, B, f, b, rfl, Z, hf, hB, q⟩ := h
    refine ⟨_, PSs.nox (pss_cons (ps_set (i := 5) scLawPutIn.nd rfl (Or.inl rfl) (pcall T.dLawElders (ok_elders T) (hr.mono (by decide)) pass0 (pa_cons (pv 4) (pa_cons (pe_ix ix_list (pv 1) (pv 3) (fun _ _ => rfl)) pa_nil))))
      (pss_cons (ps_set (i := 6) scLawPutIn.nd rfl (Or.inl rfl) (pcall T.dLawWords (ok_words T) (hr.mono (by decide)) pass0 (pa_cons (pv 4) pa_nil)))
      (pss_cons (ps_set (i := 7) scLawPutIn.nd rfl (Or.inl rfl) (pcall T.dLawStand (ok_stand_law T) (hr.mono (by decide)) pass0 (pa_cons (pv 4) pa_nil)))
      (pss_one (ps_ret (pe_cmpR op_eq (pmeth (pe_ix ix_list (pv 0) (pv 3) (fun _ _ => rfl)) T.dWoodPut (ok_put T) hr pass0 (pa_cons (pv 7) (pa_cons (pv 5) (pa_cons (pv 6) pa_nil))))
        (pcall T.dLawPut (ok_putL T) (hr.mono (by decide)) pass0 (pa_cons (pv 2) (pa_cons (pe_ix ix_list (pv 1) (pv 3) (fun _ _ => rfl)) (pa_cons (pv 7) (pa_cons (pv 5) (pa_cons (pv 6) pa_nil)))))) (nomark _))))))), ?_⟩
    have am : atI [V.ref (g.M false).m, V.ref (g.M true).m] (bi b) = some (.ref (g.M b).m) := at_bi (f := fun b => V.ref (g.M b).m) b
    have aw : atI [V.ref (g.F false).o, V.ref (g.F true).o] (bi b) = some (.ref (g.F b).o) := at_bi (f := fun b => V.ref (g.F b).o) b
    obtain ⟨x, b0, hx⟩ := id hf
    have fM : f ∉ (g.M b).l := fun z => Z.lstN hx (g.memS b _ (List.mem_append_right _ z))
    have bnd := Z.bnd b
    refine ⟨_, rfl, _, rfl, _, rfl, g.lm, _, _, _, rfl, rfl, SqL.of Z.lm, am, f, g.M b, S b, ws, rfl, hf, Z.M b, Z.G b, by omega, fM, fun el t H1 hel hel3 k1 hf1 ht1 => ?_⟩
    have Z1 := Z.kpf hf k1
    refine ⟨_, rfl, f, rfl, hf1, fun wd H2 gl k2 hf2 => ?_⟩
    have Z2 := Z1.kpf hf1 k2
    refine ⟨_, rfl, f, rfl, hf2, fun st v H3 gs hd3 k3 hf3 => ?_⟩
    have Z3 := Z2.kpf hf2 k3
    have k03 : Kp [f] H H3 := (k1.trans k2).trans k3
    have ht3 := k3.tup (k2.tup ht1)
    obtain ⟨dx, ho⟩ := (Z3.W b).obj
    obtain ⟨n, ws', S1, p1, p2⟩ := putB Z3 hB b (wd := wd) hd3 gs ht3 hel hel3
    refine ⟨_, rfl, _, rfl, g.lw, _, _, _, rfl, rfl, SqL.of Z3.lw, aw, _, _, _, rfl, ho, rfl, _, rfl, _, rfl, _, rfl, ?_⟩
    dsimp only [tNil]
    refine p1 _ _ fun H4 k4 W4 => ?_
    have lm4 := k4.at Z3.lm fun z => Z3.lstN Z3.lm (g.memS b _ (List.mem_append_left _ z))
    refine ⟨_, rfl, _, rfl, _, rfl, g.lm, _, _, _, rfl, rfl, SqL.of lm4, am, _, rfl, _, rfl, _, rfl, ?_⟩
    dsimp only [tNil]
    refine p2 H4 t _ _ k4 W4 (k4.tup ht3) fun H5 k5 Z5 => ?_
    obtain ⟨x3, b3, hx3⟩ := hf3
    exact ⟨rfl, qT (decide_eq_true rfl) (q H5 ws' _ ((k03.mono (by simp)).trans (k5.mono fun a ha => List.mem_cons_of_mem _ (g.memD b a ha))) ⟨x3, b3, k5.at hx3 fun z => Z3.lstN hx3 (g.memD b _ z)⟩ Z5)⟩
end
end Mw

/-! _law_put_in_both, _law_put_some. -/
namespace Mw
open PySem PySem.Spec PyProof.Rows L2
theorem alK_keys {l : List (Int × Int)} : (alK l).map (·.1) = (l.map (·.1)).map Sum.inl := by
  unfold alK
  rw [List.map_map, List.map_map]
  rfl
theorem alGet_isSome {l : List (Int × Int)} {n : Int} (h : n ∈ l.map (·.1)) : (alGet l n).isSome := by
  obtain ⟨p, hp, e⟩ := List.mem_map.mp h
  unfold alGet
  rw [Option.isSome_map]
  exact List.find?_isSome.mpr ⟨p, hp, decide_eq_true e⟩
section
variable {P : Program} {w : World} {K : PySem.W.Frag} {mg : Str → Option Value} {base : Heap}
def spPutBoth (P : Program) (w : World) (K : PySem.W.Frag) : Sp := fun vs H Q _ => ∃ g ws S B f, vs = [.ref g.lw, .ref g.lm, .ref g.d, .ref f] ∧ WS P w K H g ws S B ∧ FeedAt H f ∧ B < 90000 ∧
  ∀ H' ws' S', Kp (f :: g.l) H H' → FeedAt H' f → WS P w K H' g ws' S' (B + 1 + 1) → Q (.bl true) H'
theorem ok_put_both (T : Tx K mg) : OkG P w K mg base CX0 10 "_law_put_in_both" ["_law_woods", "_law_models", "_law_world", "_law_feed_here"] (spPutBoth P w K) := by
  refine T.fLawPutInBoth.ok scLawPutInBoth (fun vs H Q E h => ?_) (fun cdv A outer s H vs Q E hr h => ?_)
  · obtain ⟨g, ws, S, B, f, rfl, _⟩ := h
    rfl
  · obtain ⟨g, ws, S, B, f, rfl, Z, hf, hB, q⟩ := h
    refine ⟨_, PSs.nox (pss_cons (ps_set (i := 4) scLawPutInBoth.nd rfl (Or.inr rfl) (pcall T.dLawAlike (ok_alikeL T) (hr.mono (by decide)) pass0 (pa_cons (pe_ix ix_list (pv 1) pe_int (fun _ _ => rfl)) (pa_cons (pe_ix ix_list (pv 1) pe_int (fun _ _ => rfl)) pa_nil))))
      (pss_cons (ps_set (i := 5) scLawPutInBoth.nd rfl (Or.inl rfl) (pe_callB (call_sortDI rfl) (by rfl) T.b_sorted (by decide +kernel) (pa_cons (pv 4) pa_nil)))
      (pss_cons (ps_set (i := 6) scLawPutInBoth.nd rfl (Or.inl rfl) (pe_lst pa_nil))
      (pss_cons (ps_for PassesOwn.never rfl (pi_range1 (by rfl) T.b_range (pa_cons (pcall T.dLawTake (ok_take T) (hr.mono (by decide)) pass0 (pa_cons (pv 3) (pa_cons pe_int pa_nil))) pa_nil)) (pg_name (i := 7) scLawPutInBoth.nd rfl (Or.inl rfl))
        (pss_one (ps_if (PW.pt (pw_and (pt_neNil hr.units (pv 5)) (pw_and1 (pt_cmpR op_notInI (pe_ix ix_list (pv 5) (pe_op op_sub (pe_un un_neg pe_int) (pe_op op_mod (pv 7) (pe_callB call_len_seq (by rfl) T.b_len PySem.boot_len (pa_cons (pv 5) pa_nil)))) (fun _ _ => rfl)) (pv 6) rfl))))
          (pss_one (ps_expr (pe_bm PySem.F.plainAttrs_list PySem.F.slot_list_append PySem.F.type_list_append mt_append (pv 6) (pa_cons (pe_ix ix_list (pv 5) (pe_op op_sub (pe_un un_neg pe_int) (pe_op op_mod (pv 7) (pe_callB call_len_seq (by rfl) T.b_len PySem.boot_len (pa_cons (pv 5) pa_nil)))) (fun _ _ => rfl)) pa_nil)))) pss_nil)))
      (pss_cons (ps_set (i := 8) scLawPutInBoth.nd rfl (Or.inl rfl) (pcall T.dLawWords (ok_words T) (hr.mono (by decide)) pass0 (pa_cons (pv 3) pa_nil)))
      (pss_cons (ps_set (i := 9) scLawPutInBoth.nd rfl (Or.inl rfl) (pcall T.dLawStand (ok_stand_law T) (hr.mono (by decide)) pass0 (pa_cons (pv 3) pa_nil)))
      (pss_cons (ps_set (i := 10) scLawPutInBoth.nd rfl (Or.inl rfl) (pe_callTy call_tuple_of (by rfl) T.b_tuple (by decide +kernel) (pa_cons
            (pe_lc (own := [("_law_elder", 11)]) (g := gName 11) (tt := tYes) rfl scLawPutInBoth.nd (pi_list (pv 6)) (blkOk_by (N := nLawPutInBoth) (sc := defScope sLawPutInBoth) (by decide +kernel)) (fun _ _ _ _ _ => pg_name (i := 11) scLawPutInBoth.nd rfl (Or.inl rfl)) (fun _ _ _ _ _ => pts_nil)
              (fun _ _ _ _ _ => pe_dget (hu_of hr) (pv 4) (pv 11) (fun _ _ => rfl))) pa_nil)))
      (pss_cons (ps_if (pt_cmpR op_ne (pmeth (pe_ix ix_list (pv 0) pe_int (fun _ _ => rfl)) T.dWoodPut (ok_put T) hr pass0 (pa_cons (pv 9) (pa_cons (pe_callTy call_tuple_of (by rfl) T.b_tuple (by decide +kernel) (pa_cons (pv 6) pa_nil)) (pa_cons (pv 8) pa_nil))))
          (pcall T.dLawPut (ok_putL T) (hr.mono (by decide)) pass0 (pa_cons (pv 2) (pa_cons (pe_ix ix_list (pv 1) pe_int (fun _ _ => rfl)) (pa_cons (pv 9) (pa_cons (pe_callTy call_tuple_of (by rfl) T.b_tuple (by decide +kernel) (pa_cons (pv 6) pa_nil)) (pa_cons (pv 8) pa_nil)))))) (nomark _))
        (pss_one (ps_ret pe_bl)) pss_nil)
      (pss_one (ps_ret (pe_cmpR op_eq (pmeth (pe_ix ix_list (pv 0) pe_int (fun _ _ => rfl)) T.dWoodPut (ok_put T) hr pass0 (pa_cons (pv 9) (pa_cons (pv 10) (pa_cons (pv 8) pa_nil))))
          (pcall T.dLawPut (ok_putL T) (hr.mono (by decide)) pass0 (pa_cons (pv 2) (pa_cons (pe_ix ix_list (pv 1) pe_int (fun _ _ => rfl)) (pa_cons (pv 9) (pa_cons (pv 10) (pa_cons (pv 8) pa_nil)))))) (nomark _)))))))))))), ?_⟩
    obtain ⟨x, b0, hx⟩ := id hf
    have G0 := Z.G false
    have G1 := Z.G true
    have len0 := G0.len
    have bnd0 := Z.bnd false
    have bnd1 := Z.bnd true
    refine ⟨_, rfl, g.lm, _, _, _, rfl, rfl, SqL.of Z.lm, atI_nat (j := 0) rfl, _, rfl, g.lm, _, _, _, rfl, rfl, SqL.of Z.lm, atI_nat (j := 1) rfl, g.M false, S false, g.M true, S true, ws, rfl, Z.M false, Z.M true, G0, G1, by omega, by omega, fun H1 da s1 nda hda => ?_⟩
    refine ⟨_, rfl, da, _, (al (S false) (S true)).map (·.1), rfl, .inl hda, alK_keys, fun ys t hp hs nt => ?_⟩
    have s2 : Same H1 (upd H1 t (.lst (ys.map V.int))) := Same.new nt
    have ht2 : (upd H1 t (.lst (ys.map V.int))) t = some (.lst (ys.map V.int)) := upd_same
    generalize upd H1 t (.lst (ys.map V.int)) = H2 at s2 ht2
    have hys : ∀ v ∈ ys, (alGet (al (S false) (S true)) v).isSome := fun v hv => alGet_isSome (hp.mem_iff.mp hv)
    have ysl : ys.length ≤ (S false).ents.length := by
      have := hp.length_eq
      rw [List.length_map] at this
      have := alE_len (T := S true) (l := (S false).ents)
      unfold al at *
      omega
    have hda2 := s2 _ _ hda
    refine ⟨by show 0 ≤ sizeLine; omega, fun l nl => ?_⟩
    have s3 : Same H2 (upd H2 l (.lst [])) := Same.new nl
    have hl3 : (upd H2 l (.lst [])) l = some (.lst (([] : List Int).map V.int)) := upd_same
    generalize upd H2 l (.lst []) = H3 at s3 hl3
    have s03 := (s1.trans s2).trans s3
    have hx3 := s03 _ _ hx
    have ht3 := s3 _ _ ht2
    have hda3 := s3 _ _ hda2
    have Z3 := Z.same s03
    have nlH : H l = none := Same.no (s1.trans s2) nl
    have f_l : f ≠ l := ne_of_none hx nlH
    have f_t : f ≠ t := ne_of_none (s1 _ _ hx) nt
    have f_da : f ≠ da := ne_of_none hx nda
    have l_t : l ≠ t := (ne_of_none ht2 nl).symm
    have l_da : l ≠ da := (ne_of_none hda2 nl).symm
    refine ⟨_, rfl, f, x, b0, 3, rfl, hx3, by omega, by omega, fun r y r0 r1 => ?_⟩
    have k4 : Kp [f] H3 (upd H3 f (.lst [.int y, .bl b0])) := FeedAt.put hx3
    have hf4 : (upd H3 f (.lst [.int y, .bl b0])) f = some (.lst [.int y, .bl b0]) := upd_same
    have hl4 := k4.at hl3 (by simpa using f_l.symm)
    have ht4 := k4.at ht3 (by simpa using f_t.symm)
    have hda4 := k4.at hda3 (by simpa using f_da.symm)
    have Z4 := Z3.kpf ⟨x, b0, hx3⟩ k4
    have k04 : Kp [f] H (upd H3 f (.lst [.int y, .bl b0])) := (Kp.same s03).trans k4
    generalize upd H3 f (.lst [.int y, .bl b0]) = H4 at k4 hf4 hl4 ht4 hda4 Z4 k04
    have lN : l ∉ g.l := Z.fresh nlH
    have lw_l : g.lw ≠ l := ne_of_none Z.lw nlH
    have lm_l : g.lm ≠ l := ne_of_none Z.lm nlH
    refine ⟨r, rfl, by omega, by omega, for_range (lo := 0) (n := r.toNat) (fun i σ Hc => ∃ (el : List Int) (x7 : Option V), σ = [some (.ref g.lw), some (.ref g.lm), some (.ref g.d), some (.ref f), some (.ref da), some (.ref t), some (.ref l), x7, none, none, none, none] ∧ Kp [l] H4 Hc ∧ Hc l = some (.lst (el.map V.int)) ∧ el.length ≤ i ∧ ∀ k ∈ el, (alGet (al (S false) (S true)) k).isSome)
      ⟨[], none, rfl, Kp.refl, hl4, Nat.le_refl _, fun k hk => by cases hk⟩ ?_ ?_⟩
    · rintro i σ Hc hi ⟨el, x7, rfl, kc, hlc, hel, hes⟩
      have htc := kc.at ht4 (by simpa using l_t.symm)
      refine ⟨t, _, rfl, htc, fun H5 s5 => ?_⟩
      have hl5 := s5 _ _ hlc
      have ht5 := s5 _ _ htc
      have kc5 := kc.trans (.same s5)
      by_cases hne : ys = []
      · exact iteN (by rw [hne]; rfl) ⟨el, _, rfl, kc5, hl5, by omega, hes⟩
      · have npos : 0 < ys.length := List.length_pos_iff.mpr hne
        refine iteC ?_ ?_
        · cases hy : ys with
          | nil => exact absurd hy hne
          | cons a r => rfl
        have hlen : ((ys.map V.int).length : Int) = ys.length := by rw [List.length_map]
        have hr1 : 0 ≤ ((0 : Int) + (i : Int)) % ((ys.map V.int).length : Int) := Int.emod_nonneg _ (by omega)
        have hr2 : ((0 : Int) + (i : Int)) % ((ys.map V.int).length : Int) < ys.length := by
          have := Int.emod_lt_of_pos ((0 : Int) + (i : Int)) (show (0 : Int) < ((ys.map V.int).length : Int) by omega)
          omega
        obtain ⟨v, hv, hvm⟩ := atI_back hr1 hr2
        have hpos : (0 : Int) < ((ys.map V.int).length : Int) := by omega
        refine ⟨_, rfl, _, rfl, _, rfl, _, rfl, _, _, rfl, .inl (SqL.of ht5), _, _, rfl, rfl, hpos, _, _, rfl, rfl, t, _, _, .int v, rfl, rfl, SqL.of ht5, hv, _, rfl, v, l, el, rfl, rfl, SqL.of hl5, _, rfl, ite2 (fun _ => ?_) (fun _ => ?_)⟩
        · refine ⟨_, rfl, .inl ⟨rfl, _, SqL.of hl5⟩, _, rfl, _, rfl, _, rfl, _, rfl, _, _, rfl, .inl (SqL.of ht5), _, _, rfl, rfl, hpos, _, _, rfl, rfl, t, _, _, .int v, rfl, rfl, SqL.of ht5, hv, l, _, _, rfl, rfl, hl5, by rw [List.length_map, sizeLine_eq]; omega, ?_⟩
          refine ⟨el ++ [v], _, rfl, kc5.trans (Kp.put hl5 (fun z => z) (by simp)), by rw [List.map_append]; exact upd_same, by rw [List.length_append]; show el.length + 1 ≤ i + 1; omega, ?_⟩
          intro k hk
          rcases List.mem_append.mp hk with hk | hk
          · exact hes k hk
          · rw [List.mem_singleton.mp hk]
            exact hys v hvm
        · exact ⟨el, _, rfl, kc5, hl5, by omega, hes⟩
    · rintro σ Hc ⟨el, x7, rfl, kc, hlc, hel, hes⟩
      have Zc := Z4.kp kc (fun a ha z => lN (by rw [← List.mem_singleton.mp z]; exact ha)) (by simpa using lw_l) (by simpa using lm_l)
      have hfc := kc.at hf4 (by simpa using f_l)
      have hdac := kc.at hda4 (by simpa using l_da.symm)
      have el3 : el.length ≤ 3 := by omega
      refine ⟨_, rfl, f, rfl, ⟨y, b0, hfc⟩, fun wd H5 gl k5 hf5 => ?_⟩
      have Z5 := Zc.kpf ⟨y, b0, hfc⟩ k5
      refine ⟨_, rfl, f, rfl, hf5, fun st v H6 gs hd6 k6 hf6 => ?_⟩
      have Z6 := Z5.kpf hf5 k6
      have k46 : Kp [f] Hc H6 := k5.trans k6
      have hl6 := k46.at hlc (by simpa using f_l.symm)
      have hda6 := k46.at hdac (by simpa using f_da.symm)
      have hel0 : ∀ k ∈ el, k ∈ (S false).nums := fun k hk => by
        obtain ⟨m, hm⟩ := Option.isSome_iff_exists.mp (hes k hk)
        obtain ⟨e, he, _, _, en, _⟩ := al_some G0 hm
        exact Wo.mem_nums.mpr ⟨e, he, en⟩
      have hel1 : ∀ k ∈ alMap (al (S false) (S true)) el, k ∈ (S true).nums := fun k hk => by
        obtain ⟨j, hj, rfl⟩ := List.mem_map.mp hk
        obtain ⟨m, hm⟩ := Option.isSome_iff_exists.mp (hes j hj)
        obtain ⟨_, _, e, he, _, en, _⟩ := al_some G0 hm
        rw [hm]
        exact Wo.mem_nums.mpr ⟨e, he, en⟩
      refine ⟨_, rfl, _, rfl, ⟨_, SqL.of hl6⟩, fun D nD => lc_same (Wk.list (SqL.of hl6) (by simp)) nD (fun j acc => acc = (alMap (al (S false) (S true)) (el.take j)).map V.int) rfl ?_ ?_⟩
      · intro j v acc Hj hj hla hDj sj r hv
        rw [List.getElem?_map] at hv
        obtain ⟨k, hk, rfl⟩ := Option.map_eq_some_iff.mp hv
        obtain ⟨m, hm⟩ := Option.isSome_iff_exists.mp (hes k (List.mem_of_getElem? hk))
        have hg : valV (alK (al (S false) (S true))) (Sum.inl k) = some (.int m) := by rw [alK_get, hm]; rfl
        refine ⟨rfl, _, rfl, _, rfl, da, .int m, rfl, by rw [← hg]; exact DGet.k (k := Sum.inl k) (sj _ _ hda6), ?_⟩
        refine LcS.put nD sj hDj hla (by rw [List.length_map] at hj; rw [sizeLine_eq]; omega) ?_
        unfold alMap at r ⊢
        rw [r, List.take_add_one, hk, List.map_append, List.map_append]
        show _ ++ [V.int m] = _ ++ [V.int ((alGet _ k).getD 0)]
        rw [hm]
        rfl
      · intro acc H7 s7 r7 hD7
        rw [List.length_map, List.take_length] at r7
        subst r7
        refine ⟨D, _, rfl, .inl ⟨SqL.of hD7, fun u nu => ?_⟩⟩
        have s8 : Same H7 (upd H7 u (.tup ((alMap (al (S false) (S true)) el).map V.int))) := Same.new nu
        have hu8 : (upd H7 u (.tup ((alMap (al (S false) (S true)) el).map V.int))) u = some (.tup ((alMap (al (S false) (S true)) el).map V.int)) := upd_same
        generalize upd H7 u (.tup ((alMap (al (S false) (S true)) el).map V.int)) = H8 at s8 hu8
        have s68 := s7.trans s8
        have Z8 := Z6.same s68
        have hl8 := s68 _ _ hl6
        obtain ⟨dx, ho⟩ := (Z8.W false).obj
        refine ⟨_, rfl, g.lw, _, _, _, rfl, rfl, SqL.of Z8.lw, atI_nat (j := 0) rfl, _, _, _, rfl, ho, rfl, _, rfl, _, rfl, l, _, rfl, .inl ⟨SqL.of hl8, fun t1 nt1 => ?_⟩⟩
        have s9 : Same H8 (upd H8 t1 (.tup (el.map V.int))) := Same.new nt1
        have ht9 : (upd H8 t1 (.tup (el.map V.int))) t1 = some (.tup (el.map V.int)) := upd_same
        generalize upd H8 t1 (.tup (el.map V.int)) = H9 at s9 ht9
        have Z9 := Z8.same s9
        have s69 := s68.trans s9
        have hd9 := hd6.same s69
        obtain ⟨n, ws', S1, p1, p2⟩ := putB Z9 (by omega) false (wd := wd) hd9 gs ht9 hel0 el3
        refine ⟨_, rfl, ?_⟩
        dsimp only [tNil]
        refine p1 _ _ fun H10 k10 W10 => ?_
        have nF : ∀ {a : Addr} {xs : List V}, H9 a = some (.lst xs) → a ∉ (g.F false).l := fun h z => Z9.lstN h (g.memS false _ (List.mem_append_left _ z))
        have hl9 := s9 _ _ hl8
        refine ⟨_, rfl, _, rfl, g.lm, _, _, _, rfl, rfl, SqL.of (k10.at Z9.lm (nF Z9.lm)), atI_nat (j := 0) rfl, _, rfl, _, rfl, l, _, rfl, .inl ⟨SqL.of (k10.at hl9 (nF hl9)), fun t2 nt2 => ?_⟩⟩
        refine ⟨_, rfl, ?_⟩
        dsimp only [tNil]
        refine p2 _ t2 _ _ (k10.trans (.new nt2)) (W10.same (Same.new nt2)) upd_same fun H11 k11 Z11 => ?_
        refine ⟨rfl, _, rfl, iteNS rfl ?_⟩
        have k11' : Kp g.l H9 H11 := k11.mono (g.memD false)
        have hu11 := k11'.tup (s9 _ _ hu8)
        have hd11 := hd9.kp k11'
        have e1 : updB S false S1 true = S true := updB_ne (by decide)
        obtain ⟨dx2, ho2⟩ := (Z11.W true).obj
        have lw11 := Z11.lw
        obtain ⟨n2, ws2, S2, p3, p4⟩ := putB Z11 (by omega) true (wd := wd) hd11 gs hu11 (by rw [e1]; exact hel1) (by unfold alMap; rw [List.length_map]; omega)
        refine ⟨_, rfl, g.lw, _, _, _, rfl, rfl, SqL.of Z11.lw, atI_nat (j := 1) rfl, _, _, _, rfl, ho2, rfl, _, rfl, _, rfl, _, rfl, ?_⟩
        dsimp only [tNil]
        refine p3 _ _ fun H12 k12 W12 => ?_
        have lm12 := k12.at Z11.lm fun z => Z11.lstN Z11.lm (g.memS true _ (List.mem_append_left _ z))
        refine ⟨_, rfl, _, rfl, g.lm, _, _, _, rfl, rfl, SqL.of lm12, atI_nat (j := 1) rfl, _, rfl, _, rfl, _, rfl, ?_⟩
        dsimp only [tNil]
        refine p4 H12 u _ _ k12 W12 (k12.tup hu11) fun H13 k13 Z13 => ?_
        obtain ⟨x9, b9, hx9⟩ := hf6.same s69
        have k913 : Kp g.l H9 H13 := k11'.trans (k13.mono (g.memD true))
        have kH9 : Kp [f] H H9 := by
          have k4c : Kp [l, f] H3 Hc := (k4.mono (by simp)).trans (kc.mono (by simp))
          exact ((Kp.off_trans (S := [f]) (.same (s1.trans s2)) nlH ((Kp.same s3).trans k4c)).trans k46).trans (.same s69)
        exact ⟨rfl, qT (decide_eq_true rfl) (q H13 ws2 _ ((kH9.mono (by simp)).trans (k913.mono fun a ha => List.mem_cons_of_mem _ ha)) ⟨x9, b9, k913.at hx9 (Z9.lstN hx9)⟩ Z13)⟩
end
end Mw

/-! _law_put_some, _law_whole_woods, _law_stepped. -/
namespace Mw
open PySem PySem.Spec PyProof.Rows L2
section
variable {P : Program} {w : World} {K : PySem.W.Frag} {mg : Str → Option Value} {base : Heap}
variable {H H' : Hp} {g : GA} {ws : List NestedKey} {S : Bool → Wo} {B : Int} {f : Addr}
theorem WS.up (Z : WS P w K H g ws S B) {B' : Int} (h : B ≤ B') : WS P w K H g ws S B' := { Z with bnd := fun b => by have := Z.bnd b; omega }
def spPutSome (P : Program) (w : World) (K : PySem.W.Frag) : Sp := fun vs H Q _ => ∃ g ws S B c k, vs = [.ref g.lw, .ref g.lm, .ref g.d, .int c, .int k] ∧ WS P w K H g ws S B ∧ B < 90000 ∧
  ∀ H' ws' S', Kp g.l H H' → WS P w K H' g ws' S' (B + 1 + 1) → Q (.bl true) H'
theorem ok_put_some (T : Tx K mg) : OkG P w K mg base CX0 11 "_law_put_some" ["_law_woods", "_law_models", "_law_world", "_law_cell", "_law_k"] (spPutSome P w K) := by
  refine T.fLawPutSome.ok scLawPutSome (fun vs H Q E h => ?_) (fun cdv A outer s H vs Q E hr h => ?_)
  · obtain ⟨g, ws, S, B, c, k, rfl, _⟩ := h
    rfl
  · obtain ⟨g, ws, S, B, c, k, rfl, Z, hB, q⟩ := h
    refine ⟨_, PSs.nox (pss_cons (ps_set (i := 5) scLawPutSome.nd rfl (Or.inl rfl) (pcall T.dLawFeed (ok_feed T) (hr.mono (by decide)) pass0 (pa_cons (pv 3) (pa_cons (pv 4) pa_nil))))
      (pss_cons (ps_set (i := 6) scLawPutSome.nd rfl (Or.inl rfl) (pcall T.dLawTake (ok_take T) (hr.mono (by decide)) pass0 (pa_cons (pv 5) (pa_cons pe_int pa_nil))))
      (pss_cons (ps_if (pt_cmpR op_lt (pv 6) pe_int (nomark _)) (pss_one (ps_ret (pcall T.dLawPutIn (ok_put_in T) hr pass0 (pa_cons (pv 0) (pa_cons (pv 1) (pa_cons (pv 2) (pa_cons (pv 6) (pa_cons (pv 5) pa_nil)))))))) pss_nil)
      (pss_one (ps_ret (pcall T.dLawPutInBoth (ok_put_both T) hr pass0 (pa_cons (pv 0) (pa_cons (pv 1) (pa_cons (pv 2) (pa_cons (pv 5) pa_nil)))))))))), ?_⟩
    refine ⟨_, rfl, _, rfl, c, k, rfl, fun f x b nf => ?_⟩
    have s1 : Same H (upd H f (.lst [.int x, .bl b])) := Same.new nf
    have hf1 : (upd H f (.lst [.int x, .bl b])) f = some (.lst [.int x, .bl b]) := upd_same
    generalize upd H f (.lst [.int x, .bl b]) = H1 at s1 hf1
    have Z1 := Z.same s1
    refine ⟨_, rfl, f, x, b, 4, rfl, hf1, by omega, by omega, fun r y r0 r1 => ?_⟩
    have k2 : Kp [f] H1 (upd H1 f (.lst [.int y, .bl b])) := FeedAt.put hf1
    have hf2 : FeedAt (upd H1 f (.lst [.int y, .bl b])) f := ⟨y, b, upd_same⟩
    have Z2 := Z1.kpf ⟨x, b, hf1⟩ k2
    have lift : ∀ {H3 : Hp}, Kp (f :: g.l) (upd H1 f (.lst [.int y, .bl b])) H3 → Kp g.l H H3 := fun k => Kp.off_trans (.same s1) nf ((k2.mono (by simp)).trans k)
    refine ⟨_, rfl, _, _, rfl, rfl, _, rfl, ite2 (fun hlt => ?_) (fun hlt => ?_)⟩
    · obtain ⟨b', rfl⟩ := bi_of r0 (of_decide_eq_true hlt)
      exact ⟨_, rfl, _, rfl, _, rfl, _, rfl, _, rfl, g, ws, S, B, f, b', rfl, Z2, hf2, by omega, fun H3 ws' S' k3 hf3 Z3 => q H3 ws' S' (lift k3) (Z3.up (by omega))⟩
    · exact ⟨_, rfl, _, rfl, _, rfl, _, rfl, g, ws, S, B, f, rfl, Z2, hf2, hB, fun H3 ws' S' k3 hf3 Z3 => q H3 ws' S' (lift k3) Z3⟩
def spWhole (P : Program) (w : World) (K : PySem.W.Frag) : Sp := fun vs H Q _ => ∃ g ws S B, vs = [.ref g.lw, .ref g.lm] ∧ WS P w K H g ws S B ∧ B < 900000 ∧ ∀ H', Same H H' → Q (.bl true) H'
theorem ok_whole (T : Tx K mg) : OkG P w K mg base CX0 5 "_law_whole_woods" ["_law_woods", "_law_models"] (spWhole P w K) := by
  refine T.fLawWholeWoods.ok scLawWholeWoods (fun vs H Q E h => ?_) (fun cdv A outer s H vs Q E hr h => ?_)
  · obtain ⟨g, ws, S, B, rfl, _⟩ := h
    rfl
  · obtain ⟨g, ws, S, B, rfl, Z, hB, q⟩ := h
    refine ⟨_, PSs.nox (pss_one (ps_ret (pe_and (pcall T.dLawIsWood (ok_is_wood T) hr pass0 (pa_cons (pe_ix ix_list (pv 0) pe_int (fun _ _ => rfl)) (pa_cons (pe_ix ix_list (pv 1) pe_int (fun _ _ => rfl)) pa_nil)))
      (pe_one (pcall T.dLawIsWood (ok_is_wood T) hr pass0 (pa_cons (pe_ix ix_list (pv 0) pe_int (fun _ _ => rfl)) (pa_cons (pe_ix ix_list (pv 1) pe_int (fun _ _ => rfl)) pa_nil))))))), ?_⟩
    have bnd0 := Z.bnd false
    have bnd1 := Z.bnd true
    have n0 := (Z.G false).names3
    have n1 := (Z.G true).names3
    refine ⟨_, rfl, g.lw, _, _, _, rfl, rfl, SqL.of Z.lw, atI_nat (j := 0) rfl, _, rfl, g.lm, _, _, _, rfl, rfl, SqL.of Z.lm, atI_nat (j := 0) rfl, g.F false, g.M false, S false, ws, rfl, Z.W false, Z.M false, Z.G false, by omega, by omega, Z.ap1 false false, fun H1 s1 => ⟨_, rfl, iteT ?_⟩⟩
    have Z1 := Z.same s1
    exact ⟨_, rfl, g.lw, _, _, _, rfl, rfl, SqL.of Z1.lw, atI_nat (j := 1) rfl, _, rfl, g.lm, _, _, _, rfl, rfl, SqL.of Z1.lm, atI_nat (j := 1) rfl, g.F true, g.M true, S true, ws, rfl, Z1.W true, Z1.M true, Z1.G true, by omega, by omega, Z1.ap1 true true, fun H2 s2 => q H2 (s1.trans s2)⟩
/-- .. where a road's places were written, too -/
theorem WS.upd2 (Z : WS P w K H g ws S B) (b : Bool) {X : List Addr} {S1 : Wo} {B' : Int} (k : Kp X H H') (hx1 : g.lw ∉ X) (hx2 : g.lm ∉ X) (hs : ∀ c, c ≠ b → ∀ a ∈ g.side c, a ∉ X) (W1 : WoodAt P w K H' (g.F b) S1) (M1 : ModAt H' (g.M b) S1) (wd : WldAt P w H' g.d ws) (G1 : Good ws S1)
    (hB : B ≤ B') (h1 : S1.next ≤ B') (hw : (S b).next ≤ S1.next) : WS P w K H' g ws (updB S b S1) B' := by
  refine { lw := k.at Z.lw hx1, lm := k.at Z.lm hx2, W := fun c => ?_, M := fun c => ?_, wld := wd, G := fun c => ?_, ap1 := Z.ap1, ap2 := Z.ap2, ap3 := Z.ap3, apd := Z.apd, bnd := fun c => ?_, wsl := ?_ }
  · by_cases hc : c = b
    · subst hc
      rw [updB_same]
      exact W1
    · rw [updB_ne hc]
      exact (Z.W c).kp k fun a ha => hs c hc a (List.mem_append_left _ ha)
  · by_cases hc : c = b
    · subst hc
      rw [updB_same]
      exact M1
    · rw [updB_ne hc]
      exact (Z.M c).kp k fun a ha => hs c hc a (List.mem_append_right _ ha)
  · by_cases hc : c = b
    · subst hc
      rw [updB_same]
      exact G1
    · rw [updB_ne hc]
      exact Z.G c
  · by_cases hc : c = b
    · subst hc
      rw [updB_same]
      exact h1
    · rw [updB_ne hc]
      have := Z.bnd c
      omega
  · have := Z.wsl
    cases b with
    | false =>
      show (ws.length : Int) ≤ S1.next + (S true).next
      omega
    | true =>
      show (ws.length : Int) ≤ (S false).next + S1.next
      omega
theorem GA.disj (Z : WS P w K H g ws S B) {b c : Bool} (hc : c ≠ b) : ∀ a ∈ g.side c, a ∉ g.d :: g.side b := by
  intro a ha m
  rcases List.mem_cons.mp m with rfl | m
  · exact Z.apd c ha
  · rcases List.mem_append.mp ha with ha | ha <;> rcases List.mem_append.mp m with m | m
    · exact Z.ap2 c b hc a ha m
    · exact Z.ap1 c b a ha m
    · exact Z.ap1 b c a m ha
    · exact Z.ap3 c b hc a ha m
structure RoadAt (K : PySem.W.Frag) (H : Hp) (g : GA) (r ro : Addr) (b : Bool) (x : Str) (ov : Bool) : Prop where
  hr : H r = some (.lst [.ref ro, .int (bi b), .str x, .bl ov])
  ho : ∃ dx, H ro = some (.ins (He.ga K "Road") dx (roadFs (g.F b).o (g.F (!b)).o x ov))
  hx : x ∈ namesL
  hn : ro ∉ g.l
theorem RoadAt.kp {r ro : Addr} {b : Bool} {x : Str} {ov : Bool} {X : List Addr} (R : RoadAt K H g r ro b x ov) (k : Kp X H H') (h1 : r ∉ X) (h2 : ro ∉ X) : RoadAt K H' g r ro b x ov := by
  obtain ⟨dx, h⟩ := R.ho
  exact ⟨k.at R.hr h1, ⟨dx, k.at h h2⟩, R.hx, R.hn⟩
theorem bi_not (b : Bool) : (1 : Int) - bi b = bi (!b) := by cases b <;> rfl
end
end Mw

/-! _law_stepped. -/
namespace Mw
open PySem PySem.Spec PyProof.Rows L2
section
variable {P : Program} {w : World} {K : PySem.W.Frag} {mg : Str → Option Value} {base : Heap}
variable {H H' : Hp} {g : GA} {ws : List NestedKey} {S : Bool → Wo} {B : Int}
/-- what a step brings -/
def Stepd (S : Bool → Wo) (b : Bool) (x : Str) (n : Int) (S1 : Wo) (ov' : Bool) : Prop :=
  (lack (S b) (S (!b)) [n] = [] ∧ ov' = true ∧ ∃ m, alGet (al (S b) (S (!b))) n = some m ∧ m ∈ (S (!b)).nums ∧ S1 = (S (!b)).setName x m) ∨ (∃ n0 r0, lack (S b) (S (!b)) [n] = n0 :: r0 ∧ ov' = false ∧ lack (S b) S1 [n] = r0)
/-- the last three statements -/
def tFin (K : PySem.W.Frag) : TS := fun D σ H => ∃ (r ro h tt dx lw lm d : Addr) (b : Bool) (x : Str) (ov0 : Bool) (t : V) (u8 : Option V), σ = [some (.ref r), some (.ref lw), some (.ref lm), some (.ref d), some (.int (bi b)), some (.str x), some (.bl false), some t, u8, some t, none] ∧
  H r = some (.lst [.ref ro, .int (bi b), .str x, .bl ov0]) ∧ H ro = some (.ins (He.ga K "Road") dx (roadFs h tt x (decide (t = .non)))) ∧ (t = .non ∨ ∃ n, t = .int n) ∧ D.rt (.bl true) (upd H r (.lst [.ref ro, .int (bi b), .str x, .bl (decide (t = .non))]))
def spStepped (P : Program) (w : World) (K : PySem.W.Frag) : Sp := fun vs H Q _ => ∃ g ws S B r ro b x ov, vs = [.ref r, .ref g.lw, .ref g.lm, .ref g.d] ∧ WS P w K H g ws S B ∧ RoadAt K H g r ro b x ov ∧ B < 90000 ∧
  (ov = true → ∀ H', Same H H' → Q (.bl true) H') ∧ (ov = false → getN (S b).names x = none → ∀ H', Same H H' → Q (.bl true) H') ∧
  (ov = false → ∀ n, getN (S b).names x = some n → ∀ H' S1 ov', Kp (ro :: r :: g.l) H H' → RoadAt K H' g r ro b x ov' → WS P w K H' g ws (updB S (!b) S1) (B + 1) → Stepd S b x n S1 ov' → Q (.bl true) H')
theorem ok_stepped (T : Tx K mg) : OkG P w K mg base CX0 11 "_law_stepped" ["_law_road", "_law_woods", "_law_models", "_law_world"] (spStepped P w K) := by
  refine T.fLawStepped.ok scLawStepped (fun vs H Q E h => ?_) (fun cdv A outer s H vs Q E hr h => ?_)
  · obtain ⟨g, ws, S, B, r, ro, b, x, ov, rfl, _⟩ := h
    rfl
  · obtain ⟨g, ws, S, B, r, ro, b, x, ov, rfl, Z, R, hB, q1, q2, q3⟩ := h
    obtain ⟨t1, t2, t3, t4, t5, t6⟩ := T.ex1
    have FS : OkM P w K mg base (L2.CX P w) 10 "Road" "step" ["self"] (spStep P w K) := ok_step T
    have hm : MetOk K "Road" "step" ["self"] := T.dRoadStep
    refine ⟨_, PSs.nox (pss_cons (ps_asg (pe_slice sl_list (pv 0) (po_some pe_int) po_none) (pg_unl rfl (pgs_cons (pg_name (i := 4) scLawStepped.nd rfl (Or.inl rfl)) (pgs_cons (pg_name (i := 5) scLawStepped.nd rfl (Or.inl rfl)) (pgs_cons (pg_name (i := 6) scLawStepped.nd rfl (Or.inl rfl)) pgs_nil)))))
      (pss_cons (ps_set (i := 7) scLawStepped.nd rfl (Or.inl rfl) pe_int)
      (pss_cons (ps_try_as2 (i := 8) rfl rfl scLawStepped.nd rfl rfl ⟨rfl, by decide, .inl T.g_NoName⟩ ⟨rfl, by decide, .inl T.g_Ended⟩ takes0
          (fun W pn xe tk _ => pss_one (ps_set (i := 7) scLawStepped.nd rfl (Or.inl rfl) (pe_methS0 (ta := tOp (rIxL K) (tVar 0) (tC (.int 0))) (sp := spStep P w K) (pe_ix ix_list (pv 0) pe_int (fun _ _ => rfl)) hm.cl hm.me FS hr hm.b (fun σ => passAt tk σ))))
          (fun a oe cls d pn hz hf => pss_one (ps_set (i := 7) scLawStepped.nd rfl (Or.inl rfl) (pe_xf t2 t3 hz hf (pv 8))))
          (fun a oe cls d pn hz hf => pss_one (ps_set (i := 7) scLawStepped.nd rfl (Or.inl rfl) pe_str)))
      (pss_cons (ps_if (pt_val (pv 6)) (pss_one (ps_ret (pe_cmpR op_eq (pv 7) pe_str (nomark _)))) pss_nil)
      (pss_cons (ps_if (pt_cmp (pc_dnotin (hu_of hr) (pv 5) (pe_dget (hu_of hr) (pe_ix ix_list (pv 2) (pv 4) (fun _ _ => rfl)) pe_str (fun _ _ => rfl))) rfl) (pss_one (ps_ret (pe_cmpR op_eq (pv 7) (pv 5) (nomark _)))) pss_nil)
      (pss_cons (ps_set (i := 9) scLawStepped.nd rfl (Or.inl rfl) (pcall T.dLawStep (ok_stepL T) (hr.mono (by decide)) pass0 (pa_cons (pv 3) (pa_cons (pe_ix ix_list (pv 2) (pv 4) (fun _ _ => rfl)) (pa_cons (pe_ix ix_list (pv 2) (pe_op op_sub pe_int (pv 4)) (fun _ _ => rfl)) (pa_cons (pv 5) pa_nil))))))
      (pss_imp (t' := tFin K) (pss_cons (ps_asg (pe_cmpR op_isN (pv 9) pe_non (nomark _)) (pg_sub (pv 0) pe_int set_list))
      (pss_cons (ps_set (i := 10) scLawStepped.nd rfl (Or.inl rfl) (pmeth0 (pe_ix ix_list (pv 0) pe_int (fun _ _ => rfl)) T.dRoadHasEnded (ok_has_ended T) (hr.mono (by decide)) pass0))
      (pss_one (ps_ret (pe_and (pe_cmpR op_eq (pv 7) (pv 9) (nomark _)) (pe_and (pe_not (pe_is .bl (pv 7) T.b_isinstance T.b_bool)) (pe_and (pe_is .bl (pv 10) T.b_isinstance T.b_bool) (pe_one (pe_cmpR op_eq (pv 10) (pe_ix ix_list (pv 0) pe_int (fun _ _ => rfl)) (nomark _)))))))))) ?_))))))), ?_⟩
    · rintro D σ Hc ⟨r, ro, h, tt, dx, lw, lm, d, b, x, ov0, t, u8, rfl, hr1, hro, ht, k⟩
      have r_ro : r ≠ ro := ne_of hr1 hro (by intro z; cases z)
      have hro2 := (upd_ne r_ro.symm (H := Hc) (o := .lst [.ref ro, .int (bi b), .str x, .bl (decide (t = .non))])).trans hro
      have hr2 : (upd Hc r (.lst [.ref ro, .int (bi b), .str x, .bl (decide (t = .non))])) r = some (.lst [.ref ro, .int (bi b), .str x, .bl (decide (t = .non))]) := upd_same
      refine ⟨_, rfl, rfl, _, rfl, r, _, _, 3, rfl, rfl, hr1, rfl, ?_⟩
      refine ⟨_, rfl, _, _, _, _, rfl, rfl, SqL.of hr2, atI_nat (j := 0) rfl, _, _, _, rfl, hro2, rfl, ro, dx, h, tt, x, decide (t = .non), rfl, hro2, ?_⟩
      refine ⟨_, rfl, _, rfl, ?_⟩
      rcases ht with rfl | ⟨n, rfl⟩
      · exact ⟨rfl, _, rfl, iteT ⟨_, rfl, _, _, rfl, .non, _, rfl, _, rfl, iteT ⟨_, rfl, _, _, rfl, .bl _, _, rfl, iteT ⟨_, rfl, _, rfl, _, _, _, _, rfl, rfl, SqL.of hr2, atI_nat (j := 3) rfl, rfl, qT (decide_eq_true rfl) k⟩⟩⟩⟩
      · exact ⟨rfl, _, rfl, iteC (decide_eq_true rfl) ⟨_, rfl, _, _, rfl, .int _, _, rfl, _, rfl, iteT ⟨_, rfl, _, _, rfl, .bl _, _, rfl, iteT ⟨_, rfl, _, rfl, _, _, _, _, rfl, rfl, SqL.of hr2, atI_nat (j := 3) rfl, rfl, qT (decide_eq_true rfl) k⟩⟩⟩⟩
    · have am : ∀ c : Bool, atI [V.ref (g.M false).m, V.ref (g.M true).m] (bi c) = some (.ref (g.M c).m) := fun c => at_bi (f := fun b => V.ref (g.M b).m) c
      obtain ⟨dx, ho⟩ := R.ho
      have G := Z.G b
      have G' := Z.G (!b)
      have bnd := Z.bnd b
      have bnd' := Z.bnd (!b)
      have len0 := G.len
      have len1 := G'.len
      have nms := G'.names3
      have nb : (!b) ≠ b := by cases b <;> decide
      refine ⟨_, rfl, _, rfl, _, _, rfl, SqL.of R.hr, fun p np => ?_⟩
      rw [cut_tail]
      refine ⟨p, _, rfl, SqL.of upd_same, rfl, _, _, rfl, _, _, rfl, _, _, rfl, rfl, ?_⟩
      have s1 : Same H (upd H p (.lst (List.drop 1 [V.ref ro, .int (bi b), .str x, .bl ov]))) := Same.new np
      generalize upd H p (.lst (List.drop 1 [V.ref ro, .int (bi b), .str x, .bl ov])) = H1 at s1
      have Z1 := Z.same s1
      have ho1 := s1 _ _ ho
      have hr1 := s1 _ _ R.hr
      have ronF : ∀ c, ro ∉ (g.F c).l := fun c z => R.hn (g.memS c _ (List.mem_append_left _ z))
      have ronM : ∀ c, ro ∉ (g.M c).l := fun c z => R.hn (g.memS c _ (List.mem_append_right _ z))
      refine ⟨_, rfl, _, _, _, _, rfl, rfl, SqL.of hr1, atI_nat (j := 0) rfl, ro, dx, _, rfl, ho1, rfl, ro, dx, g.F b, S b, g.F (!b), S (!b), ws, x, ov, rfl, ho1, Z1.W b, Z1.W (!b), G, G', R.hx, by unfold smallE; omega, by unfold smallE; omega, by omega, ronF _, fun eo H2 s2 => ?_, fun eo hn H2 d2 s2 hd2 => ?_, fun eo n hn hk m hm H2 k2 ho2 W2 => ?_, fun eo n hn e he r0 hk H2 k2 W2 => ?_⟩
      · subst eo
        refine ⟨false, T.x_Ended_NoName, fun z => Bool.noConfusion z, fun _ => ⟨true, T.x_Ended_Ended, fun _ a na => ?_, fun z => Bool.noConfusion z⟩⟩
        exact ⟨_, rfl, _, rfl, iteT ⟨_, rfl, rfl, qT (decide_eq_true rfl) (q1 rfl _ (s1.trans s2))⟩⟩
      · subst eo
        refine ⟨true, T.x_NoName_NoName, fun _ a na => ⟨_, rfl, rfl, rfl, d2, _, .str x, rfl, hd2, rfl, ?_⟩, fun z => Bool.noConfusion z⟩
        have Z2 := Z1.same s2
        have hv : valV (calledK (S b).names) (.inr x) = none := by rw [calledK_get, hn]; rfl
        have dgm : DGet H2 (g.M b).m (.str "names") (some (.ref (g.M b).nm)) := by rw [← mo_names]; exact DGet.k (k := .inr "names") (Z2.M b).obj
        refine ⟨_, rfl, _, rfl, iteF ⟨_, rfl, _, rfl, _, rfl, g.lm, _, _, _, rfl, rfl, SqL.of Z2.lm, am b, (g.M b).m, .ref (g.M b).nm, rfl, dgm, (g.M b).nm, _, rfl, DGet.k (k := .inr x) (Z2.M b).nm, _, rfl, ?_⟩⟩
        rw [hv]
        exact iteT ⟨_, rfl, _, rfl, rfl, qT (decide_eq_true rfl) (q2 rfl hn _ (s1.trans s2))⟩
      · subst eo
        have hkeep : ∀ c, (Apart (g.M c).l (ro :: (g.F (!b)).l)) := fun c a ha z => by
          rcases List.mem_cons.mp z with rfl | z
          · exact ronM c ha
          · exact Z.ap1 (!b) c a z ha
        have lst2 : ∀ {a : Addr} {xs : List V}, H1 a = some (.lst xs) → H2 a = some (.lst xs) := fun {a xs} h => k2.at h fun z => by
          rcases List.mem_cons.mp z with rfl | z
          · rw [ho1] at h
            cases h
          · exact Z1.lstN h (g.memS (!b) _ (List.mem_append_left _ z))
        have M2 := (Z1.M b).kp k2 (hkeep b)
        have M2' := (Z1.M (!b)).kp k2 (hkeep (!b))
        have D2 := Z1.wld.kp k2 fun z => by
          rcases List.mem_cons.mp z with z | z
          · exact R.hn (by rw [← z]; exact List.mem_cons_self)
          · exact Z.apd (!b) (List.mem_append_left _ z)
        have lm2 := lst2 Z1.lm
        have hv : valV (calledK (S b).names) (.inr x) = some (.int n) := by rw [calledK_get, hn]; rfl
        have dgm : DGet H2 (g.M b).m (.str "names") (some (.ref (g.M b).nm)) := by rw [← mo_names]; exact DGet.k (k := .inr "names") M2.obj
        refine ⟨_, rfl, _, rfl, iteF ⟨_, rfl, _, rfl, _, rfl, g.lm, _, _, _, rfl, rfl, SqL.of lm2, am b, (g.M b).m, .ref (g.M b).nm, rfl, dgm, (g.M b).nm, _, rfl, DGet.k (k := .inr x) M2.nm, _, rfl, ?_⟩⟩
        rw [hv]
        have wsl := Z.wsl
        have bf := Z.bnd false
        have bt := Z.bnd true
        refine iteF ⟨_, rfl, _, rfl, _, rfl, g.lm, _, _, _, rfl, rfl, SqL.of lm2, am b, _, rfl, _, rfl, _, _, rfl, rfl, g.lm, _, _, _, rfl, rfl, SqL.of lm2, by rw [bi_not]; exact am (!b), _, rfl, g.d, ws, g.M b, S b, g.M (!b), S (!b), x, n, rfl, D2, by omega, M2, M2', G, G', by omega, by omega, by omega, hn, fun _ m' hm' H3 k3 M3 => ?_, fun e he r0 hk2 => by rw [hk] at hk2; cases hk2⟩
        have em : m' = m := by
          rw [hm] at hm'
          exact (Option.some.inj hm').symm
        subst em
        have hr3 : H3 r = some (.lst [.ref ro, .int (bi b), .str x, .bl false]) := k3.at (lst2 hr1) fun z => Z1.lstN hr1 (g.memS (!b) _ (List.mem_append_right _ z))
        have ho3 : H3 ro = some (.ins (He.ga K "Road") dx (roadFs (g.F b).o (g.F (!b)).o x true)) := k3.at ho2 (ronM _)
        refine ⟨r, ro, _, _, dx, _, _, _, b, x, false, .non, none, rfl, hr3, ho3, .inl rfl, ?_⟩
        have k4 : Kp [r] H3 (upd H3 r (.lst [.ref ro, .int (bi b), .str x, .bl (decide (V.non = .non))])) := Kp.put hr3 (fun z => z) (by simp)
        have r_ro : r ≠ ro := ne_of hr3 ho3 (by intro z; cases z)
        have rnl : r ∉ g.l := Z.lstN R.hr
        have sub : ∀ a ∈ (g.side (!b)), a ∈ ro :: r :: g.l := fun a ha => List.mem_cons_of_mem _ (List.mem_cons_of_mem _ (g.memS _ _ ha))
        have kX : Kp (ro :: r :: g.side (!b)) H (upd H3 r (.lst [.ref ro, .int (bi b), .str x, .bl (decide (V.non = .non))])) :=
          (((Kp.same s1).trans (k2.mono fun a ha => by
            rcases List.mem_cons.mp ha with rfl | ha
            · exact List.mem_cons_self
            · exact List.mem_cons_of_mem _ (List.mem_cons_of_mem _ (List.mem_append_left _ ha)))).trans (k3.mono fun a ha => List.mem_cons_of_mem _ (List.mem_cons_of_mem _ (List.mem_append_right _ ha)))).trans (k4.mono (by simp))
        have hxl : ∀ {a : Addr} {xs : List V}, H a = some (.lst xs) → a ≠ r → a ∉ ro :: r :: g.side (!b) := fun {a xs} h ne z => by
          rcases List.mem_cons.mp z with rfl | z
          · rw [ho] at h
            cases h
          · rcases List.mem_cons.mp z with z | z
            · exact ne z
            · exact Z.lstN h (g.memS _ _ z)
        have lw_r : g.lw ≠ r := fun z => by
          have := R.hr
          rw [← z, Z.lw] at this
          cases this
        have lm_r : g.lm ≠ r := fun z => by
          have := R.hr
          rw [← z, Z.lm] at this
          cases this
        have hmu : m' ∈ (S (!b)).nums := by
          obtain ⟨_, _, f, hf, _, efm, _⟩ := al_some G hm
          exact Wo.mem_nums.mpr ⟨f, hf, efm⟩
        refine q3 rfl n hn _ ((S (!b)).setName x m') true (kX.mono fun a ha => ?_) ⟨upd_same, ⟨dx, (upd_ne r_ro.symm).trans ho3⟩, R.hx, R.hn⟩ (Z.upd2 (!b) kX (hxl Z.lw lw_r) (hxl Z.lm lm_r) ?_ ?_ ?_ ?_ (Good.setName G' R.hx hmu) (by omega) (by show (S (!b)).next ≤ B + 1; omega) (Int.le_refl _)) (.inl ⟨hk, rfl, m', hm, hmu, rfl⟩)
        · rcases List.mem_cons.mp ha with rfl | ha
          · exact List.mem_cons_self
          · rcases List.mem_cons.mp ha with rfl | ha
            · exact List.mem_cons_of_mem _ List.mem_cons_self
            · exact sub a ha
        · intro c hc a ha z
          rcases List.mem_cons.mp z with rfl | z
          · exact R.hn (g.memS c _ ha)
          · rcases List.mem_cons.mp z with rfl | z
            · exact rnl (g.memS c _ ha)
            · exact GA.disj Z hc a ha (List.mem_cons_of_mem _ z)
        · refine (W2.kp k3 fun a ha z => Z.ap1 (!b) (!b) a ha z).kp k4 fun a ha z => ?_
          rw [List.mem_singleton.mp z] at ha
          exact rnl (g.memS _ _ (List.mem_append_left _ ha))
        · refine M3.kp k4 fun a ha z => ?_
          rw [List.mem_singleton.mp z] at ha
          exact rnl (g.memS _ _ (List.mem_append_right _ ha))
        · refine (D2.kp k3 fun z => Z.apd (!b) (List.mem_append_right _ z)).kp k4 fun z => ?_
          exact rnl (by rw [← List.mem_singleton.mp z]; exact List.mem_cons_self)
      · subst eo
        obtain ⟨e0, he0, en0, hel, _⟩ := lack_head G hk
        obtain rfl := G.uniq he0 he en0
        have hes : Elds (S (!b)) (alMap (al (S b) (S (!b))) e0.el) e0.ei := elds_map_al (T := S (!b)) G (fun e he => he) G.rise (G.el e0 he) hel
        obtain ⟨hput, hlk⟩ := lack_put G G' hk he rfl hes
        have few := G.few e0 he
        obtain ⟨w0, w1⟩ := G.wid e0 he
        have G1 := (G'.put (G.st e0 he) hes (by unfold alMap; rw [List.length_map]; exact few) w0 w1).1
        have hnx : ((S (!b)).put e0.st (alMap (al (S b) (S (!b))) e0.el) e0.wd e0.id e0.ei).1.next = (S (!b)).next + 1 := by rw [hput]
        generalize hS1 : ((S (!b)).put e0.st (alMap (al (S b) (S (!b))) e0.el) e0.wd e0.id e0.ei).1 = S1 at W2 hlk G1 hnx
        generalize hn1 : ((S (!b)).put e0.st (alMap (al (S b) (S (!b))) e0.el) e0.wd e0.id e0.ei).2 = n1
        have lst2 : ∀ {a : Addr} {xs : List V}, H1 a = some (.lst xs) → H2 a = some (.lst xs) := fun {a xs} h => k2.at h fun z => Z1.lstN h (g.memS (!b) _ (List.mem_append_left _ z))
        have M2 := (Z1.M b).kp k2 fun a ha z => Z.ap1 (!b) b a z ha
        have M2' := (Z1.M (!b)).kp k2 fun a ha z => Z.ap1 (!b) (!b) a z ha
        have D2 := Z1.wld.kp k2 fun z => Z.apd (!b) (List.mem_append_left _ z)
        have lm2 := lst2 Z1.lm
        have ho2 := k2.at ho1 (ronF _)
        have hv : valV (calledK (S b).names) (.inr x) = some (.int n) := by rw [calledK_get, hn]; rfl
        have dgm : DGet H2 (g.M b).m (.str "names") (some (.ref (g.M b).nm)) := by rw [← mo_names]; exact DGet.k (k := .inr "names") M2.obj
        refine ⟨_, rfl, _, rfl, iteF ⟨_, rfl, _, rfl, _, rfl, g.lm, _, _, _, rfl, rfl, SqL.of lm2, am b, (g.M b).m, .ref (g.M b).nm, rfl, dgm, (g.M b).nm, _, rfl, DGet.k (k := .inr x) M2.nm, _, rfl, ?_⟩⟩
        rw [hv]
        have wsl := Z.wsl
        have bf := Z.bnd false
        have bt := Z.bnd true
        refine iteF ⟨_, rfl, _, rfl, _, rfl, g.lm, _, _, _, rfl, rfl, SqL.of lm2, am b, _, rfl, _, rfl, _, _, rfl, rfl, g.lm, _, _, _, rfl, rfl, SqL.of lm2, by rw [bi_not]; exact am (!b), _, rfl, g.d, ws, g.M b, S b, g.M (!b), S (!b), x, n, rfl, D2, by omega, M2, M2', G, G', by omega, by omega, by omega, hn, fun hk2 => (by rw [hk] at hk2; cases hk2), fun e2 he2 r2 hk2 H3 k3 D3 M3 => ?_⟩
        have e2n : e2.n = e0.n := by
          rw [hk] at hk2
          injection hk2 with a _
          exact a.symm
        obtain rfl := G.uniq he2 he e2n
        rw [hS1] at M3
        rw [hn1]
        have hr3 : H3 r = some (.lst [.ref ro, .int (bi b), .str x, .bl false]) := k3.at (lst2 hr1) fun z => by
          rcases List.mem_cons.mp z with z | z
          · exact Z1.lstN hr1 (by rw [z]; exact List.mem_cons_self)
          · exact Z1.lstN hr1 (g.memS (!b) _ (List.mem_append_right _ z))
        have ho3 : H3 ro = some (.ins (He.ga K "Road") dx (roadFs (g.F b).o (g.F (!b)).o x false)) := k3.at ho2 fun z => by
          rcases List.mem_cons.mp z with z | z
          · exact R.hn (by rw [z]; exact List.mem_cons_self)
          · exact ronM _ z
        have dec : decide (V.int n1 = V.non) = false := decide_eq_false (by intro z; cases z)
        refine ⟨r, ro, _, _, dx, _, _, _, b, x, false, .int n1, none, rfl, hr3, by rw [dec]; exact ho3, .inr ⟨n1, rfl⟩, ?_⟩
        rw [dec]
        have k4 : Kp [r] H3 (upd H3 r (.lst [.ref ro, .int (bi b), .str x, .bl false])) := Kp.put hr3 (fun z => z) (by simp)
        have r_ro : r ≠ ro := ne_of hr3 ho3 (by intro z; cases z)
        have rnl : r ∉ g.l := Z.lstN R.hr
        have kX : Kp (r :: g.d :: g.side (!b)) H (upd H3 r (.lst [.ref ro, .int (bi b), .str x, .bl false])) :=
          (((Kp.same s1).trans (k2.mono fun a ha => List.mem_cons_of_mem _ (List.mem_cons_of_mem _ (List.mem_append_left _ ha)))).trans (k3.mono fun a ha => by
            rcases List.mem_cons.mp ha with rfl | ha
            · exact List.mem_cons_of_mem _ List.mem_cons_self
            · exact List.mem_cons_of_mem _ (List.mem_cons_of_mem _ (List.mem_append_right _ ha)))).trans (k4.mono (by simp))
        have hxl : ∀ {a : Addr} {xs : List V}, H a = some (.lst xs) → a ≠ r → a ∉ r :: g.d :: g.side (!b) := fun {a xs} h ne z => by
          rcases List.mem_cons.mp z with z | z
          · exact ne z
          · exact Z.lstN h (g.memD _ _ z)
        have lw_r : g.lw ≠ r := fun z => by
          have := R.hr
          rw [← z, Z.lw] at this
          cases this
        have lm_r : g.lm ≠ r := fun z => by
          have := R.hr
          rw [← z, Z.lm] at this
          cases this
        refine q3 rfl n hn _ S1 false (kX.mono fun a ha => ?_) ⟨upd_same, ⟨dx, (upd_ne r_ro.symm).trans ho3⟩, R.hx, R.hn⟩ (Z.upd2 (!b) kX (hxl Z.lw lw_r) (hxl Z.lm lm_r) ?_ ?_ ?_ ?_ G1 (by omega) (by omega) (by omega)) (.inr ⟨e2.n, r0, hk, rfl, hlk⟩)
        · rcases List.mem_cons.mp ha with rfl | ha
          · exact List.mem_cons_of_mem _ List.mem_cons_self
          · exact List.mem_cons_of_mem _ (List.mem_cons_of_mem _ (g.memD _ a ha))
        · intro c hc a ha z
          rcases List.mem_cons.mp z with rfl | z
          · exact rnl (g.memS c _ ha)
          · exact GA.disj Z hc a ha z
        · refine (W2.kp k3 fun a ha z => ?_).kp k4 fun a ha z => ?_
          · rcases List.mem_cons.mp z with rfl | z
            · exact Z.apd (!b) (List.mem_append_left _ ha)
            · exact Z.ap1 (!b) (!b) a ha z
          · rw [List.mem_singleton.mp z] at ha
            exact rnl (g.memS _ _ (List.mem_append_left _ ha))
        · refine M3.kp k4 fun a ha z => ?_
          rw [List.mem_singleton.mp z] at ha
          exact rnl (g.memS _ _ (List.mem_append_right _ ha))
        · refine D3.kp k4 fun z => ?_
          exact rnl (by rw [← List.mem_singleton.mp z]; exact List.mem_cons_self)
end
end Mw

/-! _law_deed. -/
namespace Mw
open PySem PySem.Spec PyProof.Rows L2
/-- what is never written stands -/
def KpT (H H' : Hp) : Prop := ∀ b o, H b = some o → Kpt o → H' b = some o
theorem Kp.t {S : List Addr} {H H' : Hp} (k : Kp S H H') : KpT H H' := fun b o e z => k b o e (.inr z)
theorem KpT.trans {H H1 H' : Hp} (x : KpT H H1) (y : KpT H1 H') : KpT H H' := fun b o e z => y b o (x b o e z) z
theorem Same.t {H H' : Hp} (k : Same H H') : KpT H H' := fun b o e _ => k b o e
section
variable {P : Program} {w : World} {K : PySem.W.Frag} {mg : Str → Option Value} {base : Heap}
variable {H H' : Hp} {g : GA} {ws : List NestedKey} {S : Bool → Wo} {B : Int}
structure RoadsAt (K : PySem.W.Frag) (H : Hp) (g : GA) (rd : Addr) (B : Int) : Prop where
  ex : ∃ (kvs : List (Key × V)) (ro : Addr → Addr), H rd = some (.dK kvs) ∧ (kvs.length : Int) ≤ B ∧ rd ∉ g.l ∧ (∀ i v, valV kvs (.inl i) = some v → ∃ r b x ov, v = .ref r ∧ RoadAt K H g r (ro r) b x ov) ∧
    ∀ i j r r', valV kvs (.inl i) = some (.ref r) → valV kvs (.inl j) = some (.ref r') → r ≠ r' → ro r ≠ ro r'
theorem RoadsAt.kp {rd : Addr} {B' : Int} (R : RoadsAt K H g rd B) (Z : WS P w K H g ws S B') (k : Kp g.l H H') : RoadsAt K H' g rd B := by
  obtain ⟨kvs, ro, h1, h2, h3, h4, h5⟩ := R.ex
  refine ⟨kvs, ro, k.at h1 h3, h2, h3, fun i v hv => ?_, h5⟩
  obtain ⟨r, b, x, ov, rfl, A⟩ := h4 i v hv
  exact ⟨r, b, x, ov, rfl, A.kp k (Z.lstN A.hr) A.hn⟩
theorem RoadsAt.up {rd : Addr} {B' : Int} (R : RoadsAt K H g rd B) (h : B ≤ B') : RoadsAt K H g rd B' := by
  obtain ⟨kvs, ro, h1, h2, h3⟩ := R.ex
  exact ⟨kvs, ro, h1, by omega, h3⟩
/-- one road was stepped -/
theorem RoadsAt.step {rd : Addr} {kvs : List (Key × V)} {ro : Addr → Addr} {r : Addr} {i : Int} {b : Bool} {x : Str} {ov ov' : Bool} {B' : Int} (Z : WS P w K H g ws S B') (h1 : H rd = some (.dK kvs)) (h2 : (kvs.length : Int) ≤ B) (h3 : rd ∉ g.l) (h4 : ∀ i v, valV kvs (.inl i) = some v → ∃ r b x ov, v = .ref r ∧ RoadAt K H g r (ro r) b x ov)
    (h5 : ∀ i j r r', valV kvs (.inl i) = some (.ref r) → valV kvs (.inl j) = some (.ref r') → r ≠ r' → ro r ≠ ro r') (hi : valV kvs (.inl i) = some (.ref r)) (A : RoadAt K H g r (ro r) b x ov) (A' : RoadAt K H' g r (ro r) b x ov') (k : Kp (ro r :: r :: g.l) H H') : RoadsAt K H' g rd B := by
  obtain ⟨dx, ho⟩ := A.ho
  have no : ∀ {a : Addr} {o : HO}, H a = some o → a ≠ ro r → a ≠ r → a ∉ g.l → a ∉ ro r :: r :: g.l := fun {a o} _ n1 n2 n3 z => by
    rcases List.mem_cons.mp z with z | z
    · exact n1 z
    · rcases List.mem_cons.mp z with z | z
      · exact n2 z
      · exact n3 z
  refine ⟨kvs, ro, k.at h1 (no h1 (ne_of h1 ho (by intro z; cases z)) (ne_of h1 A.hr (by intro z; cases z)) h3), h2, h3, fun j v hv => ?_, h5⟩
  obtain ⟨r2, b2, x2, ov2, rfl, A2⟩ := h4 j v hv
  by_cases e : r2 = r
  · subst e
    exact ⟨r2, b, x, ov', rfl, A'⟩
  · obtain ⟨dx2, ho2⟩ := A2.ho
    refine ⟨r2, b2, x2, ov2, rfl, A2.kp k (no A2.hr (ne_of A2.hr ho (by intro z; cases z)) e (Z.lstN A2.hr)) (no ho2 (h5 j i r2 r hv hi e) (ne_of ho2 A.hr (by intro z; cases z)) A2.hn)⟩
def spDeed (P : Program) (w : World) (K : PySem.W.Frag) : Sp := fun vs H Q _ => ∃ g ws S B rd c k, vs = [.ref g.lw, .ref g.lm, .ref g.d, .ref rd, .int c, .int k] ∧ WS P w K H g ws S B ∧ RoadsAt K H g rd B ∧ B < 80000 ∧
  ∀ H' ws' S', KpT H H' → WS P w K H' g ws' S' (B + 4) → RoadsAt K H' g rd (B + 4) → Q (.bl true) H'
theorem ok_deed (T : Tx K mg) : OkG P w K mg base CX0 12 "_law_deed" ["_law_woods", "_law_models", "_law_world", "_law_roads", "_law_cell", "_law_k"] (spDeed P w K) := by
  refine T.fLawDeed.ok scLawDeed (fun vs H Q E h => ?_) (fun cdv A outer s H vs Q E hr h => ?_)
  · obtain ⟨g, ws, S, B, rd, c, k, rfl, _⟩ := h
    rfl
  · obtain ⟨g, ws, S, B, rd, c, k, rfl, Z, R, hB, q⟩ := h
    refine ⟨_, PSs.nox (pss_cons (ps_set (i := 6) scLawDeed.nd rfl (Or.inr rfl) (pcall T.dLawFeed (ok_feed T) (hr.mono (by decide)) pass0 (pa_cons (pv 4) (pa_cons (pv 5) pa_nil))))
      (pss_cons (ps_set (i := 7) scLawDeed.nd rfl (Or.inl rfl) (pcall T.dLawTake (ok_take T) (hr.mono (by decide)) pass0 (pa_cons (pv 6) (pa_cons pe_int pa_nil))))
      (pss_cons (ps_if (pt_cmpR op_lt (pv 7) pe_int (nomark _)) (pss_one (ps_ret (pcall T.dLawPutSome (ok_put_some T) hr pass0 (pa_cons (pv 0) (pa_cons (pv 1) (pa_cons (pv 2) (pa_cons (pe_op op_add (pe_op op_mul (pe_ix ix_list (pv 6) pe_int (fun _ _ => rfl)) pe_int) (pe_callTy call_int1 (by rfl) T.b_int (by decide +kernel) (pa_cons (pe_ix ix_list (pv 6) pe_int (fun _ _ => rfl)) pa_nil))) (pa_cons (pv 5) pa_nil)))))))) pss_nil)
      (pss_cons (ps_if (pt_cmpR op_lt (pv 7) pe_int (nomark _)) (pss_cons (ps_expr (pcall T.dLawNamed (ok_namedL T) (hr.mono (by decide)) pass0 (pa_cons (pv 0) (pa_cons (pv 1) (pa_cons (pv 6) pa_nil))))) (pss_one (ps_ret pe_bl))) pss_nil)
      (pss_cons (ps_if (pt_cmpR op_eq (pv 7) pe_int (nomark _))
        (pss_cons (ps_set (i := 8) scLawDeed.nd rfl (Or.inr rfl) (pcall T.dLawTake (ok_take T) (hr.mono (by decide)) pass0 (pa_cons (pv 6) (pa_cons pe_int pa_nil))))
        (pss_cons (ps_setLc (i := 9) (own := [("_law_one", 10)]) (g := gName 10) (tt := tYes) (te := tCall spTake [] E0 (tCons (tVar 6) (tCons (tOp (rI0 fun i j => .int (i + j)) (tDGet (tOp (rIxL K) (tVar 1) (tVar 8)) (tC (.str "next"))) (tC (.int 1))) tNil))) rfl scLawDeed.nd rfl rfl (sw_true rfl rfl rfl (by decide +kernel))
            (pi_range1 (by rfl) T.b_range (pa_cons (pcall T.dLawTake (ok_take T) (hr.mono (by decide)) pass0 (pa_cons (pv 6) (pa_cons pe_int pa_nil))) pa_nil)) (blkOk_by (N := nLawDeed) (sc := defScope sLawDeed) (by decide +kernel)) (fun _ _ _ _ _ => pg_name (i := 10) scLawDeed.nd rfl (Or.inl rfl)) (fun _ _ _ _ _ => pts_nil)
            (fun _ _ _ _ _ => pcall T.dLawTake (ok_take T) (hr.mono (by decide)) pass0 (pa_cons (pv 6) (pa_cons (pe_op op_add (pe_dget (hu_of hr) (pe_ix ix_list (pv 1) (pv 8) (fun _ _ => rfl)) pe_str (fun _ _ => rfl)) pe_int) pa_nil))))
        (pss_one (ps_ret (pcall T.dLawLetGo (ok_let_goL T) (hr.mono (by decide)) pass0 (pa_cons (pe_ix ix_list (pv 0) (pv 8) (fun _ _ => rfl)) (pa_cons (pe_ix ix_list (pv 1) (pv 8) (fun _ _ => rfl)) (pa_cons (pv 9) pa_nil)))))))) pss_nil)
      (pss_cons (ps_set (i := 11) scLawDeed.nd rfl (Or.inl rfl) (pcall T.dLawTake (ok_take T) (hr.mono (by decide)) pass0 (pa_cons (pv 6) (pa_cons pe_int pa_nil))))
      (pss_cons (ps_if (pt_cmpR op_lt (pv 7) pe_int (nomark _))
        (pss_cons (ps_set (i := 12) scLawDeed.nd rfl (Or.inl rfl) (pcall T.dLawTake (ok_take T) (hr.mono (by decide)) pass0 (pa_cons (pv 6) (pa_cons pe_int pa_nil))))
        (pss_cons (ps_set (i := 13) scLawDeed.nd rfl (Or.inl rfl) (pe_ix ix_list (pe_lst (pa_cons pe_str (pa_cons pe_str (pa_cons pe_str pa_nil)))) (pcall T.dLawTake (ok_take T) (hr.mono (by decide)) pass0 (pa_cons (pv 6) (pa_cons pe_int pa_nil))) (fun _ _ => rfl)))
        (pss_cons (ps_dput (hu_of hr) (pv 3) (pv 11) (pe_lst (pa_cons (pmake T.dRoadInit (ok_road_init T) (hr.mono (by decide)) pass0 (pa_cons (pe_ix ix_list (pv 0) (pv 12) (fun _ _ => rfl)) (pa_cons (pe_ix ix_list (pv 0) (pe_op op_sub pe_int (pv 12)) (fun _ _ => rfl)) (pa_cons (pv 13) pa_nil)))) (pa_cons (pv 12) (pa_cons (pv 13) (pa_cons pe_bl pa_nil))))) rfl)
        (pss_one (ps_ret pe_bl))))) pss_nil)
      (pss_cons (ps_for PassesOwn.never rfl (pi_range1 (by rfl) T.b_range (pa_cons (pe_op op_add pe_int (pcall T.dLawTake (ok_take T) (hr.mono (by decide)) pass0 (pa_cons (pv 6) (pa_cons pe_int pa_nil)))) pa_nil)) (pg_name (i := 14) scLawDeed.nd rfl (Or.inl rfl))
        (pss_one (ps_if (PW.pt (pw_and (pt_cmp (pc_din (hu_of hr) (pv 11) (pv 3)) rfl) (pw_and1 (pt_not (pt_val (pcall T.dLawStepped (ok_stepped T) hr pass0 (pa_cons (pe_dget (hu_of hr) (pv 3) (pv 11) (fun _ _ => rfl)) (pa_cons (pv 0) (pa_cons (pv 1) (pa_cons (pv 2) pa_nil))))))))))
          (pss_one (ps_ret pe_bl)) pss_nil)))
      (pss_one (ps_ret pe_bl)))))))))), ?_⟩
    have am : ∀ c : Bool, atI [V.ref (g.M false).m, V.ref (g.M true).m] (bi c) = some (.ref (g.M c).m) := fun c => at_bi (f := fun b => V.ref (g.M b).m) c
    have aw : ∀ c : Bool, atI [V.ref (g.F false).o, V.ref (g.F true).o] (bi c) = some (.ref (g.F c).o) := fun c => at_bi (f := fun b => V.ref (g.F b).o) c
    refine ⟨_, rfl, _, rfl, c, k, rfl, fun f x b nf => ?_⟩
    have s1 : Same H (upd H f (.lst [.int x, .bl b])) := Same.new nf
    have hf1 : (upd H f (.lst [.int x, .bl b])) f = some (.lst [.int x, .bl b]) := upd_same
    generalize upd H f (.lst [.int x, .bl b]) = H1 at s1 hf1
    refine ⟨_, rfl, f, x, b, 12, rfl, hf1, by omega, by omega, fun way y w0 w1 => ?_⟩
    have k2 : Kp [f] H1 (upd H1 f (.lst [.int y, .bl b])) := FeedAt.put hf1
    have hf2 : (upd H1 f (.lst [.int y, .bl b])) f = some (.lst [.int y, .bl b]) := upd_same
    have Z2 := (Z.same s1).kpf ⟨x, b, hf1⟩ k2
    have k02 : Kp [f] H (upd H1 f (.lst [.int y, .bl b])) := (Kp.same s1).trans k2
    generalize upd H1 f (.lst [.int y, .bl b]) = H2 at k2 hf2 Z2 k02
    have lift : ∀ {X : List Addr} {H3 : Hp}, Kp (f :: X) H2 H3 → Kp X H H3 := fun k => Kp.off_trans (.same s1) nf ((k2.mono (by simp)).trans k)
    have lift0 : ∀ {H3 : Hp}, Kp [f] H2 H3 → Same H H3 := fun k => (lift (X := []) k).to_same
    refine ⟨_, rfl, _, _, rfl, rfl, _, rfl, ite2 (fun _ => ?_) (fun h4 => ?_)⟩
    · refine ⟨_, rfl, _, rfl, _, rfl, _, rfl, _, _, _, _, rfl, rfl, SqL.of hf2, atI_nat (j := 0) rfl, _, _, rfl, rfl, .inr ⟨by decide, by decide⟩, _, rfl, _, _, _, _, rfl, rfl, SqL.of hf2, atI_nat (j := 1) rfl, .inr ⟨b, rfl, _, _, rfl, rfl, _, rfl, g, ws, S, B, _, k, rfl, Z2, by omega, fun H3 ws' S' k3 Z3 => ?_⟩⟩
      have k03 := lift (k3.mono fun a ha => List.mem_cons_of_mem f ha)
      exact q H3 ws' S' (Kp.t k03) (Z3.up (by omega)) ((R.kp Z k03).up (by omega))
    refine ⟨_, rfl, _, _, rfl, rfl, _, rfl, ite2 (fun _ => ?_) (fun h6 => ?_)⟩
    · refine ⟨_, rfl, _, rfl, _, rfl, g, ws, S, B, f, rfl, Z2, ⟨y, b, hf2⟩, by omega, fun H3 S' k3 hf3 Z3 => ?_⟩
      have k03 := lift k3
      exact q H3 ws S' (Kp.t k03) (Z3.up (by omega)) ((R.kp Z k03).up (by omega))
    refine ⟨_, rfl, rfl, _, rfl, ite2 (fun _ => ?_) (fun _ => ?_)⟩
    · refine ⟨_, rfl, f, y, b, 2, rfl, hf2, by omega, by omega, fun r3 y3 r30 r31 => ?_⟩
      obtain ⟨at_, rfl⟩ := bi_of r30 r31
      have k3 : Kp [f] H2 (upd H2 f (.lst [.int y3, .bl b])) := FeedAt.put hf2
      have hf3 : (upd H2 f (.lst [.int y3, .bl b])) f = some (.lst [.int y3, .bl b]) := upd_same
      have Z3 := Z2.kpf ⟨y, b, hf2⟩ k3
      generalize upd H2 f (.lst [.int y3, .bl b]) = H3 at k3 hf3 Z3
      refine ⟨_, rfl, f, y3, b, 4, rfl, hf3, by omega, by omega, fun r4 y4 r40 r41 => ?_⟩
      have k4 : Kp [f] H3 (upd H3 f (.lst [.int y4, .bl b])) := FeedAt.put hf3
      have hf4 : (upd H3 f (.lst [.int y4, .bl b])) f = some (.lst [.int y4, .bl b]) := upd_same
      have Z4 := Z3.kpf ⟨y3, b, hf3⟩ k4
      have k24 : Kp [f] H2 (upd H3 f (.lst [.int y4, .bl b])) := k3.trans k4
      generalize upd H3 f (.lst [.int y4, .bl b]) = H4 at k4 hf4 Z4 k24
      have bnd := Z.bnd at_
      have nx0 := Z.next0 at_
      refine ⟨r4, rfl, by omega, by omega, fun D nD => lc_wk (S := [f]) Wk.range (fun i acc Hc => Kp [f] H4 Hc ∧ FeedAt Hc f ∧ ∃ held : List Int, acc = held.map V.int ∧ held.length = i)
        ⟨.new nD, ⟨y4, b, (Same.new nD) _ _ hf4⟩, [], rfl, rfl⟩ (fun i acc Hc h => h.1) ?_ ?_⟩
      · rintro i v acc Hc Hc' hi hla hDc ⟨kc, hfc, held, rfl, hhl⟩ sc rfl
        obtain ⟨x5, b5, hf5⟩ := hfc.same sc
        have kc' := kc.trans (.same sc)
        have Z5 := Z4.kpf ⟨y4, b, hf4⟩ kc'
        have f_D : f ≠ D := ne_of_none hf4 nD
        have dgm : DGet Hc' (g.M at_).m (.str "next") (some (.int (S at_).next)) := by rw [← mo_next]; exact DGet.k (k := .inr "next") (Z5.M at_).obj
        refine ⟨rfl, _, rfl, _, rfl, _, rfl, g.lm, _, _, _, rfl, rfl, SqL.of Z5.lm, am at_, (g.M at_).m, .int (S at_).next, rfl, dgm, _, _, rfl, rfl, f, x5, b5, (S at_).next + 1, rfl, hf5, by omega, by omega, fun r6 y6 r60 r61 => ?_⟩
        have k6 : Kp [f] Hc' (upd Hc' f (.lst [.int y6, .bl b5])) := FeedAt.put hf5
        have hf6 : FeedAt (upd Hc' f (.lst [.int y6, .bl b5])) f := ⟨y6, b5, upd_same⟩
        have hD6 : (upd Hc' f (.lst [.int y6, .bl b5])) D = some (.lst (held.map V.int)) := (upd_ne f_D.symm).trans (sc _ _ hDc)
        have k7 : Kp [D] (upd Hc' f (.lst [.int y6, .bl b5])) (upd (upd Hc' f (.lst [.int y6, .bl b5])) D (.lst (held.map V.int ++ [.int r6]))) := Kp.put hD6 (fun z => z) (by simp)
        refine ⟨held.map V.int, hD6, by rw [List.length_map, sizeLine_eq]; omega, held.map V.int ++ [.int r6], by rw [List.length_append, List.length_map]; show held.length + 1 ≤ i + 1; omega, upd_same, Kp.put0 (kc'.trans k6) nD, hf6.kp k7 (by simpa using f_D), held ++ [r6], by rw [List.map_append]; rfl, by rw [List.length_append, hhl]; rfl⟩
      · rintro acc H5 ⟨k5, hf5, held, rfl, hhl⟩ hD5
        have Z5 := Z4.kpf ⟨y4, b, hf4⟩ k5
        refine ⟨_, rfl, _, rfl, g.lw, _, _, _, rfl, rfl, SqL.of Z5.lw, aw at_, _, rfl, _, rfl, g.lm, _, _, _, rfl, rfl, SqL.of Z5.lm, am at_, _, rfl, g.F at_, g.M at_, S at_, ws, held, D, rfl, hD5, Z5.W at_, Z5.M at_, Z5.G at_, by omega, by omega, Z.ap1 at_ at_, fun H6 k6 W6 M6 => ?_⟩
        have kD : Kp (g.d :: g.side at_) H5 H6 := k6.mono fun a ha => List.mem_cons_of_mem _ ha
        have Z6 := Z5.upd at_ kD W6 M6 (Z5.wld.kp k6 (Z.apd at_)) (Good.stay (Z.G at_) held) (fun _ _ h => h) (Int.le_refl _) (Z.bnd at_) (by show (ws.length : Int) - ws.length ≤ (S at_).next - (S at_).next; omega)
        have k06 : Kp g.l H H6 := lift (((k24.trans k5).mono (by simp)).trans (kD.mono fun a ha => List.mem_cons_of_mem _ (g.memD _ a ha)))
        exact q H6 ws _ (Kp.t k06) (Z6.up (by omega)) ((R.kp Z k06).up (by omega))
    · refine ⟨_, rfl, f, y, b, 3, rfl, hf2, by omega, by omega, fun slot y3 r30 r31 => ?_⟩
      have k3 : Kp [f] H2 (upd H2 f (.lst [.int y3, .bl b])) := FeedAt.put hf2
      have hf3 : (upd H2 f (.lst [.int y3, .bl b])) f = some (.lst [.int y3, .bl b]) := upd_same
      have Z3 := Z2.kpf ⟨y, b, hf2⟩ k3
      generalize upd H2 f (.lst [.int y3, .bl b]) = H3 at k3 hf3 Z3
      refine ⟨_, rfl, _, _, rfl, rfl, _, rfl, ite2 (fun _ => ?_) (fun _ => ?_)⟩
      · refine ⟨_, rfl, f, y3, b, 2, rfl, hf3, by omega, by omega, fun r4 y4 r40 r41 => ?_⟩
        obtain ⟨sd, rfl⟩ := bi_of r40 r41
        have k4 : Kp [f] H3 (upd H3 f (.lst [.int y4, .bl b])) := FeedAt.put hf3
        have hf4 : (upd H3 f (.lst [.int y4, .bl b])) f = some (.lst [.int y4, .bl b]) := upd_same
        have Z4 := Z3.kpf ⟨y3, b, hf3⟩ k4
        generalize upd H3 f (.lst [.int y4, .bl b]) = H4 at k4 hf4 Z4
        refine ⟨by show 3 ≤ sizeLine; decide, fun l nl => ?_⟩
        have s5 : Same H4 (upd H4 l (.lst (namesL.map V.str))) := Same.new nl
        have hl5 : (upd H4 l (.lst (namesL.map V.str))) l = some (.lst (namesL.map V.str)) := upd_same
        have f_l : f ≠ l := ne_of_none hf4 nl
        refine ⟨_, rfl, f, y4, b, 3, rfl, s5 _ _ hf4, by omega, by omega, fun r6 y6 r60 r61 => ?_⟩
        obtain ⟨n6, rfl, hn6⟩ := int_nat (n := 3) r60 r61
        let H5 : Hp := upd H4 l (.lst (namesL.map V.str))
        let H6 : Hp := upd H5 f (.lst [.int y6, .bl b])
        have k6 : Kp [f] H5 H6 := FeedAt.put (s5 _ _ hf4)
        have hk6 : namesL[n6]? = some (namesL[n6]'hn6) := List.getElem?_eq_getElem hn6
        have hnm : namesL[n6]'hn6 ∈ namesL := List.getElem_mem hn6
        refine ⟨l, namesL.map V.str, _, .str (namesL[n6]'hn6), rfl, rfl, SqL.of ((upd_ne f_l.symm).trans hl5), atI_nat (j := n6) (by rw [List.getElem?_map, hk6]; rfl), ?_⟩
        generalize namesL[n6]'hn6 = nm at hnm
        have Z6 : WS P w K H6 g ws S B := (Z4.same s5).kpf ⟨y4, b, s5 _ _ hf4⟩ k6
        have s06 : Same H H6 := lift0 ((((k3.trans k4).trans (.same s5))).trans k6)
        refine ⟨_, rfl, _, rfl, g.lw, _, _, _, rfl, rfl, SqL.of Z6.lw, aw sd, _, rfl, _, rfl, _, _, rfl, rfl, g.lw, _, _, _, rfl, rfl, SqL.of Z6.lw, by rw [bi_not]; exact aw (!sd), _, rfl, fun ro dx nro ndx ne => ?_⟩
        let H7 : Hp := upd (upd H6 dx (.own ro)) ro (.ins (He.ga K "Road") dx [])
        have s7 : Same H6 H7 := Same.put0 (Same.new ndx) nro
        refine ⟨ro, dx, _, _, nm, rfl, upd_same, fun H8 k8 h8 => ⟨rfl, _, rfl, _, rfl, by show 4 ≤ sizeLine; decide, fun r nr => ?_⟩⟩
        have s8 : Same H6 H8 := (Kp.off_trans (S := []) (.same (Same.refl H6)) nro ((Kp.same (S := [ro]) s7).trans k8)).to_same
        have sr : Same H8 (upd H8 r (.lst [.ref ro, .int (bi sd), .str nm, .bl false])) := Same.new nr
        have hr9 : (upd H8 r (.lst [.ref ro, .int (bi sd), .str nm, .bl false])) r = some (.lst [.ref ro, .int (bi sd), .str nm, .bl false]) := upd_same
        have h9 := sr _ _ h8
        have s09 : Same H (upd H8 r (.lst [.ref ro, .int (bi sd), .str nm, .bl false])) := (s06.trans s8).trans sr
        have nroH : H ro = none := Same.no s06 nro
        have nrH : H r = none := Same.no (s06.trans s8) nr
        generalize upd H8 r (.lst [.ref ro, .int (bi sd), .str nm, .bl false]) = H9 at sr hr9 h9 s09
        obtain ⟨kvs, rof, e1, e2, e3, e4, e5⟩ := R.ex
        have e19 := s09 _ _ e1
        refine ⟨_, rfl, _, rfl, rd, _, rfl, DPut.k (k := .inl slot) e19 (by rw [sizeLine_eq]; omega), ?_⟩
        let HX : Hp := upd H9 rd (.dK (putK kvs (.inl slot) (.ref r)))
        have kX : Kp [rd] H9 HX := Kp.put e19 (fun z => z) (by simp)
        have Z9 := Z.same s09
        have nin : ∀ {a : Addr} {xs : List V}, H9 a = some (.lst xs) → a ∉ [rd] := fun h z => by
          rw [List.mem_singleton.mp z, e19] at h
          cases h
        have ZX : WS P w K HX g ws S B := Z9.kp kX (fun a ha z => e3 (by rw [← List.mem_singleton.mp z]; exact ha)) (nin Z9.lw) (nin Z9.lm)
        have rd_ro : ro ∉ [rd] := fun z => by
          rw [List.mem_singleton.mp z, e1] at nroH
          cases nroH
        have keep : ∀ {a : Addr} {r2 : Addr} {b2 : Bool} {x2 : Str} {ov2 : Bool}, RoadAt K H g r2 a b2 x2 ov2 → RoadAt K HX g r2 a b2 x2 ov2 := fun {a r2 b2 x2 ov2} A => by
          have A9 : RoadAt K H9 g r2 a b2 x2 ov2 := A.kp (X := []) (.same s09) (by simp) (by simp)
          refine A9.kp kX (nin A9.hr) fun z => ?_
          obtain ⟨dx2, ho2⟩ := A9.ho
          rw [List.mem_singleton.mp z, e19] at ho2
          cases ho2
        have roN : ro ∉ g.l := Z.fresh nroH
        have oldr : ∀ {j : Int} {r2 : Addr}, valV kvs (.inl j) = some (.ref r2) → r2 ≠ r ∧ rof r2 ≠ ro := fun {j r2} hv => by
          obtain ⟨r3, b3, x3, ov3, er, A⟩ := e4 j _ hv
          cases er
          obtain ⟨dx3, ho3⟩ := A.ho
          exact ⟨ne_of_none A.hr nrH, ne_of_none ho3 nroH⟩
        refine q HX ws S (KpT.trans (Same.t s09) (Kp.t kX)) (ZX.up (by omega)) ⟨putK kvs (.inl slot) (.ref r), fun a => if a = r then ro else rof a, upd_same, ?_, e3, fun j v hv => ?_, fun i j r1 r2 h1 h2 ne2 => ?_⟩
        · have := putK_le kvs (.inl slot) (.ref r)
          omega
        · rw [valV_put] at hv
          split at hv
          · cases hv
            have er : (fun a => if a = r then ro else rof a) r = ro := if_pos rfl
            refine ⟨r, sd, nm, false, rfl, ?_⟩
            rw [er]
            exact ⟨kX.at hr9 (nin hr9), ⟨dx, kX.at h9 rd_ro⟩, hnm, roN⟩
          · obtain ⟨r3, b3, x3, ov3, rfl, A⟩ := e4 j _ hv
            have := oldr hv
            have er : (fun a => if a = r then ro else rof a) r3 = rof r3 := if_neg this.1
            refine ⟨r3, b3, x3, ov3, rfl, ?_⟩
            rw [er]
            exact keep A
        · rw [valV_put] at h1 h2
          split at h1
          · cases h1
            split at h2
            · cases h2
              exact absurd rfl ne2
            · have := oldr h2
              show (if r = r then ro else rof r) ≠ (if r2 = r then ro else rof r2)
              rw [if_pos rfl, if_neg this.1]
              exact fun z => this.2 z.symm
          · have o1 := oldr h1
            split at h2
            · cases h2
              show (if r1 = r then ro else rof r1) ≠ (if r = r then ro else rof r)
              rw [if_neg o1.1, if_pos rfl]
              exact o1.2
            · have o2 := oldr h2
              show (if r1 = r then ro else rof r1) ≠ (if r2 = r then ro else rof r2)
              rw [if_neg o1.1, if_neg o2.1]
              exact e5 i j r1 r2 h1 h2 ne2
      · refine ⟨_, rfl, f, y3, b, 4, rfl, hf3, by omega, by omega, fun r4 y4 r40 r41 => ?_⟩
        have k4 : Kp [f] H3 (upd H3 f (.lst [.int y4, .bl b])) := FeedAt.put hf3
        have Z4 := Z3.kpf ⟨y3, b, hf3⟩ k4
        have s04 : Same H (upd H3 f (.lst [.int y4, .bl b])) := lift0 (k3.trans k4)
        generalize upd H3 f (.lst [.int y4, .bl b]) = H4 at k4 Z4 s04
        have R4 : RoadsAt K H4 g rd B := R.kp Z (.same s04)
        refine ⟨_, _, rfl, rfl, 1 + r4, rfl, by omega, by omega, for_range (lo := 0) (n := (1 + r4).toNat) (fun i σ Hc => ∃ ws' S' x14, σ = [some (.ref g.lw), some (.ref g.lm), some (.ref g.d), some (.ref rd), some (.int c), some (.int k), some (.ref f), some (.int way), none, none, none, some (.int slot), none, none, x14] ∧ KpT H Hc ∧ WS P w K Hc g ws' S' (B + i) ∧ RoadsAt K Hc g rd (B + i))
          ⟨ws, S, none, rfl, Same.t s04, Z4.up (by show B ≤ B + ((0 : Nat) : Int); omega), R4.up (by show B ≤ B + ((0 : Nat) : Int); omega)⟩ ?_ ?_⟩
        · rintro i σ Hc hi ⟨ws', S', x14, rfl, kc, Zc, Rc⟩
          obtain ⟨kvs, rof, e1, e2, e3, e4, e5⟩ := Rc.ex
          refine ⟨_, rfl, _, rfl, rd, _, rfl, DGet.k (k := .inl slot) e1, _, rfl, ?_⟩
          cases hv : valV kvs (.inl slot) with
          | none => exact iteF (iteF ⟨ws', S', _, rfl, kc, Zc.up (by show B + (i : Int) ≤ B + ((i + 1 : Nat) : Int); omega), Rc.up (by show B + (i : Int) ≤ B + ((i + 1 : Nat) : Int); omega)⟩)
          | some v =>
            obtain ⟨r5, b5, x5, ov5, rfl, A⟩ := e4 slot v hv
            have stay : ∀ {Hd : Hp}, Same Hc Hd → ∃ ws' S' x14, [some (.ref g.lw), some (.ref g.lm), some (.ref g.d), some (.ref rd), some (.int c), some (.int k), some (.ref f), some (.int way), none, none, none, some (.int slot), none, none, some (V.int (0 + (i : Int)))] = [some (.ref g.lw), some (.ref g.lm), some (.ref g.d), some (.ref rd), some (.int c), some (.int k), some (.ref f), some (.int way), none, none, none, some (.int slot), none, none, x14] ∧ KpT H Hd ∧ WS P w K Hd g ws' S' (B + ((i + 1 : Nat) : Int)) ∧ RoadsAt K Hd g rd (B + ((i + 1 : Nat) : Int)) := fun sd => ⟨ws', S', _, rfl, KpT.trans kc (Same.t sd), (Zc.same sd).up (by omega), (Rc.kp Zc (.same sd)).up (by omega)⟩
            refine iteT ⟨_, rfl, _, rfl, rd, .ref r5, rfl, by rw [← hv]; exact DGet.k (k := .inl slot) e1, _, rfl, _, rfl, _, rfl, g, ws', S', B + i, r5, rof r5, b5, x5, ov5, rfl, Zc, A, by omega, fun _ H5 s5 => ⟨_, rfl, iteF (stay s5)⟩, fun _ _ H5 s5 => ⟨_, rfl, iteF (stay s5)⟩, fun _ n _ H5 S1 ov' k5 A5 Z5 _ => ⟨_, rfl, iteF ⟨ws', _, _, rfl, KpT.trans kc (Kp.t k5), Z5.up (by omega), (RoadsAt.step Zc e1 e2 e3 e4 e5 hv A A5 k5).up (by omega)⟩⟩⟩
        · rintro σ Hc ⟨ws', S', x14, rfl, kc, Zc, Rc⟩
          exact q Hc ws' S' kc (Zc.up (by omega)) (Rc.up (by omega))
end
end Mw

/-! _law_brought. -/
namespace Mw
open PySem PySem.Spec PyProof.Rows L2
section
variable {P : Program} {w : World} {K : PySem.W.Frag} {mg : Str → Option Value} {base : Heap}
variable {H H' : Hp} {g : GA} {ws : List NestedKey} {S : Bool → Wo} {B : Int}
def spBrought (P : Program) (w : World) (K : PySem.W.Frag) : Sp := fun vs H Q _ => ∃ g ws S B b x n, vs = [.ref g.lw, .ref g.lm, .ref g.d, .int (bi b), .str x] ∧ WS P w K H g ws S B ∧ getN (S b).names x = some n ∧ B < 40000 ∧
  ∀ H' S1, Kp g.l H H' → WS P w K H' g ws (updB S (!b) S1) (2 * B + 2) → Q (.bl true) H'
theorem not_ne (b : Bool) : b ≠ !b := by cases b <;> decide
theorem updB_upd {S : Bool → Wo} {b : Bool} {s t : Wo} : updB (updB S b s) b t = updB S b t := by
  funext c
  unfold updB
  split <;> rfl
theorem updB_id {S : Bool → Wo} {b : Bool} : updB S b (S b) = S := by
  funext c
  unfold updB
  split
  · next h => rw [h]
  · rfl
theorem ok_brought (T : Tx K mg) : OkG P w K mg base CX0 12 "_law_brought" ["_law_woods", "_law_models", "_law_world", "_law_side", "_law_name"] (spBrought P w K) := by
  refine T.fLawBrought.ok scLawBrought (fun vs H Q E h => ?_) (fun cdv A outer s H vs Q E hr h => ?_)
  · obtain ⟨g, ws, S, B, b, x, n, rfl, _⟩ := h
    rfl
  · obtain ⟨g, ws, S, B, b, x, n, rfl, Z, hn, hB, q⟩ := h
    refine ⟨_, PSs.nox (pss_cons (ps_set (i := 5) scLawBrought.nd rfl (Or.inl rfl) (pe_lst (pa_cons (pmake T.dRoadInit (ok_road_init T) (hr.mono (by decide)) pass0 (pa_cons (pe_ix ix_list (pv 0) (pv 3) (fun _ _ => rfl)) (pa_cons (pe_ix ix_list (pv 0) (pe_op op_sub pe_int (pv 3)) (fun _ _ => rfl)) (pa_cons (pv 4) pa_nil)))) (pa_cons (pv 3) (pa_cons (pv 4) (pa_cons pe_bl pa_nil))))))
      (pss_cons (ps_for PassesOwn.never rfl (pi_range1 (by rfl) T.b_range (pa_cons (pe_op op_add (pe_callB call_lenD (by rfl) T.b_len PySem.boot_len (pa_cons (pe_dget (hu_of hr) (pe_ix ix_list (pv 1) (pv 3) (fun _ _ => rfl)) pe_str (fun _ _ => rfl)) pa_nil)) pe_int) pa_nil)) (pg_name (i := 6) scLawBrought.nd rfl (Or.inl rfl))
        (pss_one (ps_if (PW.pt (pw_and (pt_not (pt_val (pe_ix ix_list (pv 5) pe_int (fun _ _ => rfl)))) (pw_and1 (pt_not (pt_val (pcall T.dLawStepped (ok_stepped T) hr pass0 (pa_cons (pv 5) (pa_cons (pv 0) (pa_cons (pv 1) (pa_cons (pv 2) pa_nil))))))))))
          (pss_one (ps_ret pe_bl)) pss_nil)))
      (pss_cons (ps_if (PW.pt (pw_or (pt_not (pt_val (pe_ix ix_list (pv 5) pe_int (fun _ _ => rfl)))) (pw_or1 (pt_cmpR (op_neNil hr.units) (pcall T.dLacking (ok_lacking T) (hr.mono (by decide)) passL (pa_cons (pe_ix ix_list (pv 0) (pv 3) (fun _ _ => rfl)) (pa_cons (pe_ix ix_list (pv 0) (pe_op op_sub pe_int (pv 3)) (fun _ _ => rfl)) (pa_cons (pv 4) pa_nil)))) (pe_lst pa_nil) (nomark _)))))
        (pss_one (ps_ret pe_bl)) pss_nil)
      (pss_cons (ps_set (i := 7) scLawBrought.nd rfl (Or.inl rfl) (pcall T.dAlikeMakes (ok_alike T) (hr.mono (by decide)) pass0 (pa_cons (pe_ix ix_list (pv 0) (pv 3) (fun _ _ => rfl)) (pa_cons (pe_ix ix_list (pv 0) (pe_op op_sub pe_int (pv 3)) (fun _ _ => rfl)) pa_nil))))
      (pss_one (ps_ret (pe_and (pe_cmpR op_eq (pe_dget (hu_of hr) (pv 7) (pmeth (pe_ix ix_list (pv 0) (pv 3) (fun _ _ => rfl)) T.dWoodNamed (ok_named T) (hr.mono (by decide)) pass0 (pa_cons (pv 4) pa_nil)) (fun _ _ => rfl)) (pmeth (pe_ix ix_list (pv 0) (pe_op op_sub pe_int (pv 3)) (fun _ _ => rfl)) T.dWoodNamed (ok_named T) (hr.mono (by decide)) pass0 (pa_cons (pv 4) pa_nil)) (nomark _))
        (pe_one (pcall T.dLawStepped (ok_stepped T) hr pass0 (pa_cons (pv 5) (pa_cons (pv 0) (pa_cons (pv 1) (pa_cons (pv 2) pa_nil)))))))))))))
      , ?_⟩
    have am : ∀ c : Bool, atI [V.ref (g.M false).m, V.ref (g.M true).m] (bi c) = some (.ref (g.M c).m) := fun c => at_bi (f := fun b => V.ref (g.M b).m) c
    have aw : ∀ c : Bool, atI [V.ref (g.F false).o, V.ref (g.F true).o] (bi c) = some (.ref (g.F c).o) := fun c => at_bi (f := fun b => V.ref (g.F b).o) c
    have awn : atI [V.ref (g.F false).o, V.ref (g.F true).o] (1 - bi b) = some (.ref (g.F (!b)).o) := by rw [bi_not]; exact aw (!b)
    have hnm : x ∈ namesL := ((Z.G b).nm _ (getN_mem hn)).1
    have bnd := Z.bnd b
    have len0 := (Z.G b).len
    refine ⟨_, rfl, _, rfl, g.lw, _, _, _, rfl, rfl, SqL.of Z.lw, aw b, _, rfl, _, rfl, _, _, rfl, rfl, g.lw, _, _, _, rfl, rfl, SqL.of Z.lw, awn, _, rfl, fun ro dx nro ndx ne => ?_⟩
    let H7 : Hp := upd (upd H dx (.own ro)) ro (.ins (He.ga K "Road") dx [])
    have s7 : Same H H7 := Same.put0 (Same.new ndx) nro
    refine ⟨ro, dx, _, _, x, rfl, upd_same, fun H8 k8 h8 => ⟨rfl, _, rfl, _, rfl, by show 4 ≤ sizeLine; decide, fun r nr => ?_⟩⟩
    have s8 : Same H H8 := (Kp.off_trans (S := []) (.same (Same.refl H)) nro ((Kp.same (S := [ro]) s7).trans k8)).to_same
    have sr : Same H8 (upd H8 r (.lst [.ref ro, .int (bi b), .str x, .bl false])) := Same.new nr
    have hr9 : (upd H8 r (.lst [.ref ro, .int (bi b), .str x, .bl false])) r = some (.lst [.ref ro, .int (bi b), .str x, .bl false]) := upd_same
    have h9 := sr _ _ h8
    have s09 : Same H (upd H8 r (.lst [.ref ro, .int (bi b), .str x, .bl false])) := s8.trans sr
    generalize upd H8 r (.lst [.ref ro, .int (bi b), .str x, .bl false]) = H9 at sr hr9 h9 s09
    have Z9 := Z.same s09
    have nrH : H r = none := Same.no s8 nr
    have A9 : RoadAt K H9 g r ro b x false := ⟨hr9, ⟨dx, h9⟩, hnm, Z.fresh nro⟩
    have dgm : DGet H9 (g.M b).m (.str "makes") (some (.ref (g.M b).ids)) := by rw [← mo_makes]; exact DGet.k (k := .inr "makes") (Z9.M b).obj
    have il : (idK (S b).ents).length = (S b).ents.length := List.length_map _
    have hnn : n ∈ (S b).nums := ((Z.G b).nm _ (getN_mem hn)).2
    have L0 : (lack (S b) (S (!b)) [n]).length ≤ (S b).ents.length := Nat.le_trans (List.length_filter_le _ _) (nodup_len (line_nodup (Z.G b)) fun y hy => (line_mem.mp hy).1)
    refine ⟨_, rfl, _, rfl, g.lm, _, _, _, rfl, rfl, SqL.of Z9.lm, am b, (g.M b).m, .ref (g.M b).ids, rfl, dgm, (g.M b).ids, _, rfl, (Z9.M b).ids, _, _, rfl, rfl, _, rfl, by rw [il]; omega, by rw [il]; omega, for_range (lo := 0) (n := (((idK (S b).ents).length : Int) + 1).toNat) (fun i σ Hc => ∃ S1 ov x6, σ = [some (.ref g.lw), some (.ref g.lm), some (.ref g.d), some (.int (bi b)), some (.str x), some (.ref r), x6, none] ∧ Kp g.l H Hc ∧ RoadAt K Hc g r ro b x ov ∧ WS P w K Hc g ws (updB S (!b) S1) (B + i) ∧
        (ov = false → (lack (S b) S1 [n]).length + i ≤ (S b).ents.length) ∧ (ov = true → lack (S b) S1 [n] = [] ∧ ∃ m, alGet (al (S b) S1) n = some m ∧ getN S1.names x = some m))
      ⟨S (!b), false, none, rfl, .same s09, A9, by rw [updB_id]; exact Z9.up (by show B ≤ B + ((0 : Nat) : Int); omega), fun _ => L0, fun z => Bool.noConfusion z⟩ ?_ ?_⟩
    · rintro i σ Hc hi ⟨S1, ov, x6, rfl, kc, A, Zc, i1, i2⟩
      have hi : i ≤ (S b).ents.length := by rw [il] at hi; omega
      refine ⟨_, rfl, _, _, _, _, rfl, rfl, SqL.of A.hr, atI_nat (j := 3) rfl, ov, rfl, ?_⟩
      cases ov with
      | true => exact iteF (iteF ⟨S1, true, _, rfl, kc, A, Zc.up (by show B + (i : Int) ≤ B + ((i + 1 : Nat) : Int); omega), fun z => Bool.noConfusion z, i2⟩)
      | false =>
        have eb : updB S (!b) S1 b = S b := updB_ne (not_ne b)
        have en : updB S (!b) S1 (!b) = S1 := updB_same
        refine iteT ⟨_, rfl, _, rfl, _, rfl, _, rfl, g, ws, updB S (!b) S1, B + i, r, ro, b, x, false, rfl, Zc, A, by omega, fun z => Bool.noConfusion z, fun _ hno => ?_, fun _ n' hn' H5 S2 ov' k5 A5 Z5 st => ?_⟩
        · rw [eb, hn] at hno
          cases hno
        · rw [eb, hn] at hn'
          cases hn'
          unfold Stepd at st
          rw [eb, en] at st
          rw [updB_upd] at Z5
          refine ⟨_, rfl, iteF ⟨S2, ov', _, rfl, Kp.off (Kp.off_trans (S := r :: g.l) (kc.mono fun a ha => List.mem_cons_of_mem _ ha) nro k5) nrH, A5, Z5.up (by omega), fun eo => ?_, fun eo => ?_⟩⟩
          · rcases st with ⟨_, e, _⟩ | ⟨n0, r0, h1, _, h3⟩
            · rw [e] at eo
              cases eo
            · have := i1 rfl
              rw [h1, List.length_cons] at this
              rw [h3]
              omega
          · rcases st with ⟨h1, _, m, h2, _, h3⟩ | ⟨n0, r0, _, e, _⟩
            · subst h3
              refine ⟨h1, m, h2, ?_⟩
              show getN (setN S1.names x m) x = some m
              rw [getN_set, if_pos rfl]
            · rw [e] at eo
              cases eo
    · rintro σ Hc ⟨S1, ov, x6, rfl, kc, A, Zc, i1, i2⟩
      have eo : ov = true := by
        cases ov with
        | true => rfl
        | false =>
          have := i1 rfl
          rw [il] at this
          omega
      subst eo
      obtain ⟨hl, m, hm, hgm⟩ := i2 rfl
      have eb : updB S (!b) S1 b = S b := updB_ne (not_ne b)
      have en : updB S (!b) S1 (!b) = S1 := updB_same
      have Wb : WoodAt P w K Hc (g.F b) (S b) := by rw [← eb]; exact Zc.W b
      have Wn : WoodAt P w K Hc (g.F (!b)) S1 := by rw [← en]; exact Zc.W (!b)
      have Gb : Good ws (S b) := Z.G b
      have Gn : Good ws S1 := by rw [← en]; exact Zc.G (!b)
      have hsm : smallE (S b) := by unfold smallE; omega
      refine ⟨_, rfl, _, _, _, _, rfl, rfl, SqL.of A.hr, atI_nat (j := 3) rfl, true, rfl, iteF ?_⟩
      refine ⟨_, rfl, _, rfl, g.lw, _, _, _, rfl, rfl, SqL.of Zc.lw, aw b, _, rfl, _, rfl, _, _, rfl, rfl, g.lw, _, _, _, rfl, rfl, SqL.of Zc.lw, awn, _, rfl, ?_⟩
      refine ⟨g.F b, S b, g.F (!b), S1, ws, x, rfl, Wb, Wn, Gb, Gn, hnm, hsm, fun n' hn' H2 p s2 np hp => ?_, fun hno => by rw [hn] at hno; cases hno⟩
      rw [hn] at hn'
      cases hn'
      rw [hl] at hp
      refine ⟨by show 0 ≤ sizeLine; omega, fun l nl => ⟨p, l, _, rfl, rfl, (Same.new nl) _ _ hp, upd_same, _, rfl, iteF ?_⟩⟩
      have s3 : Same Hc (upd H2 l (.lst [])) := s2.trans (Same.new nl)
      show (tSeq _ _) _ _ (upd H2 l (.lst []))
      generalize upd H2 l (.lst []) = H3 at s3
      have Z3 := Zc.same s3
      have Wb3 := Wb.same s3
      have Wn3 := Wn.same s3
      refine ⟨_, rfl, _, rfl, g.lw, _, _, _, rfl, rfl, SqL.of Z3.lw, aw b, _, rfl, _, rfl, _, _, rfl, rfl, g.lw, _, _, _, rfl, rfl, SqL.of Z3.lw, awn, ?_⟩
      refine ⟨g.F b, S b, g.F (!b), S1, ws, rfl, Wb3, Wn3, Gb, Gn, hsm, fun H4 da s4 nda hda => ?_⟩
      have Z4 := Z3.same s4
      have Wb4 := Wb3.same s4
      obtain ⟨dxb, hob⟩ := Wb4.obj
      refine ⟨_, rfl, _, rfl, _, rfl, g.lw, _, _, _, rfl, rfl, SqL.of Z4.lw, aw b, _, _, _, rfl, hob, rfl, _, rfl, g.F b, S b, x, n, rfl, Wb4, hnm, hn, fun H5 s5 => ?_⟩
      have hg : valV (alK (al (S b) S1)) (.inl n) = some (.int m) := by rw [alK_get, hm]; rfl
      have Z5 := Z4.same s5
      have Wn5 := (Wn3.same s4).same s5
      obtain ⟨dxn, hon⟩ := Wn5.obj
      refine ⟨da, .int m, rfl, by rw [← hg]; exact DGet.k (k := .inl n) (s5 _ _ hda), ?_⟩
      refine ⟨_, rfl, _, rfl, _, _, rfl, rfl, g.lw, _, _, _, rfl, rfl, SqL.of Z5.lw, awn, _, _, _, rfl, hon, rfl, _, rfl, g.F (!b), S1, x, m, rfl, Wn5, hnm, hgm, fun H6 s6 => ?_⟩
      have s36 := (s4.trans s5).trans s6
      have Z6 := Z3.same s36
      have A6 : RoadAt K H6 g r ro b x true := A.kp (X := []) (.same (s3.trans s36)) (by simp) (by simp)
      refine ⟨rfl, _, rfl, iteC (decide_eq_true rfl) ⟨_, rfl, _, rfl, _, rfl, _, rfl, g, ws, updB S (!b) S1, _, r, ro, b, x, true, rfl, Z6, A6, by rw [il]; omega, fun _ H7 s7 => ?_, fun z => Bool.noConfusion z, fun z => Bool.noConfusion z⟩⟩
      exact q H7 S1 (kc.trans (.same ((s3.trans s36).trans s7))) ((Z6.same s7).up (by rw [il]; omega))
end
end Mw

/-! law. -/
namespace Mw
open PySem PySem.Spec PyProof.Rows L2
section
variable {P : Program} {w : World} {K : PySem.W.Frag} {mg : Str → Option Value} {base : Heap}
variable {H H' : Hp}
theorem sq_only {a : Addr} {xs : List V} (h : SqL K H a xs) (o : Only H) (k : KpT H H') : SqL K H' a xs := by
  rcases h with (h | ⟨ob, h⟩) | h
  · rcases o a with z | ⟨ob, ys, z⟩
    · rw [z] at h
      cases h
    · rw [z] at h
      cases h
  · exact .inl (.inr ⟨ob, k _ _ h True.intro⟩)
  · exact .inr h
def pw2 (m : Nat) : Int := 250 * ((2 ^ m : Nat) : Int) - 2
theorem pw2_succ (m : Nat) : pw2 (m + 1) = 2 * pw2 m + 2 := by
  unfold pw2
  rw [Nat.pow_succ]
  omega
theorem pw2_le {m n : Nat} (h : m ≤ n) : pw2 m ≤ pw2 n := by
  unfold pw2
  have := Nat.pow_le_pow_right (n := 2) (by omega) h
  omega
theorem pw2_5 : pw2 5 = 7998 := by decide
theorem pw2_6 : pw2 6 = 15998 := by decide
theorem pw2_0 : pw2 0 = 248 := by decide
theorem good0 : Good [] woNew := by
  refine ⟨List.Pairwise.nil, ?_, ?_, ?_, ?_, ?_, ?_, List.nodup_nil, ?_, ?_, List.nodup_nil, Int.le_refl _⟩ <;> intro e he <;> cases he
def spLaw (K : PySem.W.Frag) : Sp := fun vs H Q _ => ∃ (a : Addr) (ns : List Int), vs = [.ref a] ∧ SqL K H a (ns.map V.int) ∧ Only H ∧ ns.length ≤ 63 ∧ ∀ H', Q (.bl true) H'
theorem ok_law (T : Tx K mg) : OkG P w K mg base CX0 13 "law" ["_law_script"] (spLaw K) := by
  refine T.fLaw.ok scLaw (fun vs H Q E h => ?_) (fun cdv A outer s H vs Q E hr h => ?_)
  · obtain ⟨a, ns, rfl, _⟩ := h
    rfl
  · obtain ⟨a, ns, rfl, ha, hO, hl, q⟩ := h
    refine ⟨_, PSs.nox (pss_cons (ps_set (i := 1) scLaw.nd rfl (Or.inl rfl) (pe_lst (pa_cons (pmake0 T.dWoodInit (ok_wood_init T) (hr.mono (by decide)) pass0) (pa_cons (pmake0 T.dWoodInit (ok_wood_init T) (hr.mono (by decide)) pass0) pa_nil))))
      (pss_cons (ps_set (i := 2) scLaw.nd rfl (Or.inl rfl) (pe_lst (pa_cons (pcall0 T.dLawModel (ok_model T) (hr.mono (by decide)) pass0) (pa_cons (pcall0 T.dLawModel (ok_model T) (hr.mono (by decide)) pass0) pa_nil))))
      (pss_cons (ps_set (i := 3) scLaw.nd rfl (Or.inl rfl) pe_dnewN)
      (pss_cons (ps_set (i := 4) scLaw.nd rfl (Or.inl rfl) pe_dnewK)
      (pss_cons (ps_for PassesOwn.never rfl (pi_range2 (by rfl) T.b_range (pa_cons pe_int (pa_cons (pe_callB (call_min2 rfl) (by rfl) T.b_min (by decide +kernel) (pa_cons (pe_callB call_len_seq (by rfl) T.b_len PySem.boot_len (pa_cons (pv 0) pa_nil)) (pa_cons pe_int pa_nil))) pa_nil))) (pg_name (i := 5) scLaw.nd rfl (Or.inl rfl))
        (pss_cons (ps_if (pt_not (pt_val (pcall T.dLawDeed (ok_deed T) hr pass0 (pa_cons (pv 1) (pa_cons (pv 2) (pa_cons (pv 3) (pa_cons (pv 4) (pa_cons (pe_ix ix_list (pv 0) (pv 5) (fun _ _ => rfl)) (pa_cons (pv 5) pa_nil))))))))) (pss_one (ps_ret pe_bl)) pss_nil)
        (pss_one (ps_if (PW.pt (pw_and (pt_cmpR op_eq (pe_op op_mod (pv 5) pe_int) pe_int (nomark _)) (pw_and1 (pt_not (pt_val (pcall T.dLawWholeWoods (ok_whole T) (hr.mono (by decide)) pass0 (pa_cons (pv 1) (pa_cons (pv 2) pa_nil)))))))) (pss_one (ps_ret pe_bl)) pss_nil))))
      (pss_cons (ps_set (i := 6) scLaw.nd rfl (Or.inl rfl) (pe_op op_mod (pcall T.dLawCellAt (ok_cell_at T) (hr.mono (by decide)) pass0 (pa_cons (pv 0) (pa_cons pe_int pa_nil))) pe_int))
      (pss_cons (ps_for PassesOwn.never rfl (pi_list (pe_lst (pa_cons (pv 6) (pa_cons (pe_op op_sub pe_int (pv 6)) pa_nil)))) (pg_name (i := 7) scLaw.nd rfl (Or.inl rfl))
        (pss_one (ps_for PassesOwn.never rfl (pi_list (pe_callB (call_sortedD rfl) (by rfl) T.b_sorted (by decide +kernel) (pa_cons (pe_dget (hu_of hr) (pe_ix ix_list (pv 2) (pv 7) (fun _ _ => rfl)) pe_str (fun _ _ => rfl)) pa_nil))) (pg_name (i := 8) scLaw.nd rfl (Or.inl rfl))
          (pss_one (ps_if (PW.pt (pw_or (pt_not (pt_val (pcall T.dLawBrought (ok_brought T) hr pass0 (pa_cons (pv 1) (pa_cons (pv 2) (pa_cons (pv 3) (pa_cons (pv 7) (pa_cons (pv 8) pa_nil)))))))) (pw_or1 (pt_not (pt_val (pcall T.dLawWholeWoods (ok_whole T) (hr.mono (by decide)) pass0 (pa_cons (pv 1) (pa_cons (pv 2) pa_nil)))))))) (pss_one (ps_ret pe_bl)) pss_nil)))))
      (pss_cons (ps_for PassesOwn.never rfl (pi_range1 (by rfl) T.b_range (pa_cons pe_int pa_nil)) (pg_name (i := 5) scLaw.nd rfl (Or.inl rfl))
        (pss_one (ps_if (pt_not (pt_val (pcall T.dLawLetGo (ok_let_goL T) (hr.mono (by decide)) pass0 (pa_cons (pe_ix ix_list (pv 1) (pv 5) (fun _ _ => rfl)) (pa_cons (pe_ix ix_list (pv 2) (pv 5) (fun _ _ => rfl)) (pa_cons (pe_lst pa_nil) pa_nil)))))) (pss_one (ps_ret pe_bl)) pss_nil)))
      (pss_one (ps_ret (pcall T.dLawWholeWoods (ok_whole T) (hr.mono (by decide)) pass0 (pa_cons (pv 1) (pa_cons (pv 2) pa_nil)))))))))))))
      , ?_⟩
    -- two woods
    intro o0 dx0 n0 ndx0 ne0
    have t0 : Same H (upd (upd H dx0 (.own o0)) o0 (.ins (He.ga K "Wood") dx0 [])) := Same.put0 (Same.new ndx0) n0
    refine ⟨o0, dx0, rfl, upd_same, fun F0 H1 e0 fr0 _ k1 W0 => ⟨rfl, ?_⟩⟩
    have s1 : Same H H1 := (Kp.off_trans (S := []) (.same (Same.refl H)) n0 ((Kp.same (S := [o0]) t0).trans k1)).to_same
    subst e0
    intro o1 dx1 n1 ndx1 ne1
    have t1 : Same H1 (upd (upd H1 dx1 (.own o1)) o1 (.ins (He.ga K "Wood") dx1 [])) := Same.put0 (Same.new ndx1) n1
    refine ⟨o1, dx1, rfl, upd_same, fun F1 H2 e1 fr1 _ k2 W1 => ⟨rfl, by show 2 ≤ sizeLine; decide, fun lw nlw => ?_⟩⟩
    have s2 : Same H1 H2 := (Kp.off_trans (S := []) (.same (Same.refl H1)) n1 ((Kp.same (S := [o1]) t1).trans k2)).to_same
    subst e1
    have fr1' : ∀ b ∈ F1.l, H1 b = none := fun b hb => by
      rcases fr1 b hb with rfl | z
      · exact n1
      · exact Same.no t1 z
    have s3 : Same H2 (upd H2 lw (.lst [.ref F0.o, .ref F1.o])) := Same.new nlw
    have hlw : (upd H2 lw (.lst [.ref F0.o, .ref F1.o])) lw = some (.lst [.ref F0.o, .ref F1.o]) := upd_same
    generalize upd H2 lw (.lst [.ref F0.o, .ref F1.o]) = H3 at s3 hlw
    have W03 := (W0.same s2).same s3
    have W13 := W1.same s3
    -- two models
    refine ⟨rfl, fun M0 H4 frM0 _ s4 hM0 => ⟨rfl, fun M1 H5 frM1 _ s5 hM1 => ⟨by show 2 ≤ sizeLine; decide, fun lm nlm => ?_⟩⟩⟩
    have s6 : Same H5 (upd H5 lm (.lst [.ref M0.m, .ref M1.m])) := Same.new nlm
    have hlm : (upd H5 lm (.lst [.ref M0.m, .ref M1.m])) lm = some (.lst [.ref M0.m, .ref M1.m]) := upd_same
    generalize upd H5 lm (.lst [.ref M0.m, .ref M1.m]) = H6 at s6 hlm
    intro d nd
    have s7 : Same H6 (upd H6 d (NdO P w d [])) := Same.new nd
    have hd : (upd H6 d (NdO P w d [])) d = some (NdO P w d []) := upd_same
    let H7 : Hp := upd H6 d (NdO P w d [])
    let g : GA := ⟨lw, lm, d, fun | false => F0 | true => F1, fun | false => M0 | true => M1⟩
    have s36 : Same H3 H6 := (s4.trans s5).trans s6
    have s37 : Same H3 H7 := s36.trans s7
    have M08 := ((hM0.same s5).same s6).same s7
    have M18 := (hM1.same s6).same s7
    have W08 := W03.same s37
    have W18 := W13.same s37
    have Z7 : WS P w K H7 g [] (fun _ => woNew) 0 := by
      refine { lw := s37 _ _ hlw, lm := s7 _ _ hlm, W := fun b => ?_, M := fun b => ?_, wld := ⟨[], ⟨hd, fun x hx => (List.not_mem_nil hx).elim, by rw [sizeLine_eq]; decide⟩, rfl, fun i x hx => by cases hx⟩, G := fun _ => good0, ap1 := fun b c a ha z => ?_, ap2 := fun b c hbc a ha z => ?_, ap3 := fun b c hbc a ha z => ?_, apd := fun b z => ?_, bnd := fun _ => Int.le_refl _, wsl := Int.le_refl _ }
      · cases b
        · exact W08
        · exact W18
      · cases b
        · exact M08
        · exact M18
      · cases b <;> cases c
        · exact W03.fresh (frM0 a z) ha
        · exact (W03.same s4).fresh (frM1 a z) ha
        · exact W13.fresh (frM0 a z) ha
        · exact (W13.same s4).fresh (frM1 a z) ha
      · cases b <;> cases c
        · exact hbc rfl
        · exact W0.fresh (fr1' a z) ha
        · exact W0.fresh (fr1' a ha) z
        · exact hbc rfl
      · cases b <;> cases c
        · exact hbc rfl
        · exact hM0.fresh (frM1 a z) ha
        · exact hM0.fresh (frM1 a ha) z
        · exact hbc rfl
      · cases b
        · rcases List.mem_append.mp z with z | z
          · exact (W03.same s36).fresh nd z
          · exact ((hM0.same s5).same s6).fresh nd z
        · rcases List.mem_append.mp z with z | z
          · exact (W13.same s36).fresh nd z
          · exact (hM1.same s6).fresh nd z
    intro rd nrd
    let H8 : Hp := upd H7 rd (.dK [])
    have s8 : Same H7 H8 := Same.new nrd
    have hrd : H8 rd = some (.dK []) := upd_same
    have Z8 : WS P w K H8 g [] (fun _ => woNew) 0 := Z7.same s8
    have sH8 : Same H H8 := (((s1.trans s2).trans s3).trans s37).trans s8
    have R8 : RoadsAt K H8 g rd 0 := ⟨[], id, hrd, Int.le_refl _, Z7.fresh nrd, fun i v hv => (by cases hv), fun i j r r' h1 => (by cases h1)⟩
    have hmin : ∀ z : Int, (if (63 : Int) < z then 63 else z) ≤ 63 := fun z => by split <;> omega
    refine ⟨_, rfl, _, _, rfl, .inl (sq_only ha hO (Same.t sH8)), _, _, rfl, 1, _, rfl, ?_, ?_⟩
    · rw [List.length_map]
      split <;> omega
    have hn62 : ((if (63 : Int) < ((ns.map V.int).length : Int) then (63 : Int) else ((ns.map V.int).length : Int)) - 1).toNat ≤ 62 ∧ ((if (63 : Int) < ((ns.map V.int).length : Int) then (63 : Int) else ((ns.map V.int).length : Int)) - 1).toNat + 1 ≤ max 1 ns.length := by
      rw [List.length_map]
      split <;> omega
    generalize ((if (63 : Int) < ((ns.map V.int).length : Int) then (63 : Int) else ((ns.map V.int).length : Int)) - 1).toNat = nn at hn62
    obtain ⟨hn62, hnl⟩ := hn62
    refine for_range (lo := 1) (n := nn) (fun i σ Hc => ∃ ws S x5, σ = [some (.ref a), some (.ref lw), some (.ref lm), some (.ref d), some (.ref rd), x5, none, none, none] ∧ KpT H Hc ∧ WS P w K Hc g ws S (4 * (i : Int)) ∧ RoadsAt K Hc g rd (4 * (i : Int)))
      ⟨[], _, none, rfl, Same.t sH8, Z8.up (by show (0 : Int) ≤ 4 * ((0 : Nat) : Int); omega), R8.up (by show (0 : Int) ≤ 4 * ((0 : Nat) : Int); omega)⟩ ?_ ?_
    · rintro i σ Hc hi ⟨ws, S, x5, rfl, kc, Zc, Rc⟩
      have hia : 1 + i < ns.length := by omega
      have hk : ns[1 + i]? = some (ns[1 + i]'hia) := List.getElem?_eq_getElem hia
      refine ⟨_, rfl, _, rfl, _, rfl, _, rfl, _, rfl, _, rfl, _, _, _, .int (ns[1 + i]'hia), rfl, rfl, sq_only ha hO kc, ?_, _, rfl, g, ws, S, 4 * (i : Int), rd, _, _, rfl, Zc, Rc, by omega, fun H9 ws' S' k9 Z9 R9 => ?_⟩
      · have : ((1 : Int) + (i : Int)) = ((1 + i : Nat) : Int) := by omega
        rw [this]
        exact atI_nat (j := 1 + i) (by rw [List.getElem?_map, hk]; rfl)
      · have e4 : 4 * (i : Int) + 4 = 4 * ((i + 1 : Nat) : Int) := by omega
        rw [e4] at Z9 R9
        refine ⟨_, rfl, iteF ⟨_, rfl, _, _, rfl, rfl, by show (0 : Int) < 8; decide, rfl, _, rfl, ite2 (fun _ => ?_) (fun _ => ?_)⟩⟩
        · refine ⟨_, rfl, _, rfl, g, ws', S', _, rfl, Z9, by omega, fun H10 s10 => ⟨_, rfl, iteF ⟨ws', S', _, rfl, KpT.trans (KpT.trans kc k9) (Same.t s10), Z9.same s10, R9.kp Z9 (.same s10)⟩⟩⟩
        · exact iteF ⟨ws', S', _, rfl, KpT.trans kc k9, Z9, R9⟩
    · rintro σ Hc ⟨ws, S, x5, rfl, kc, Zc, _⟩
      have Zc : WS P w K Hc g ws S (pw2 0) := Zc.up (by rw [pw2_0]; omega)
      refine ⟨_, rfl, a, ns, rfl, sq_only ha hO kc, by omega, fun r0 => ⟨_, _, rfl, rfl, by show (0 : Int) < 2; decide, ?_⟩⟩
      obtain ⟨b0, hb0⟩ := bi_of (Int.emod_nonneg r0 (by decide : (2 : Int) ≠ 0)) (Int.emod_lt_of_pos r0 (by decide : (0 : Int) < 2))
      show gName 6 (V.int (r0 % 2)) _ _ _
      rw [hb0]
      refine ⟨_, rfl, _, rfl, _, _, rfl, rfl, by show 2 ≤ sizeLine; decide, fun p np => ?_⟩
      let HA : Hp := upd Hc p (.lst [.int (bi b0), .int (1 - bi b0)])
      have s1' : Same Hc HA := Same.new np
      have hp1 : HA p = some (.lst [.int (bi b0), .int (1 - bi b0)]) := upd_same
      have Z1 : WS P w K HA g ws S (pw2 0) := Zc.same s1'
      have am : ∀ (g : GA) (c : Bool), atI [V.ref (g.M false).m, V.ref (g.M true).m] (bi c) = some (.ref (g.M c).m) := fun g c => at_bi (f := fun b => V.ref (g.M b).m) c
      have aw : ∀ (g : GA) (c : Bool), atI [V.ref (g.F false).o, V.ref (g.F true).o] (bi c) = some (.ref (g.F c).o) := fun g c => at_bi (f := fun b => V.ref (g.F b).o) c
      refine ⟨p, rfl, ⟨_, SqL.of hp1⟩, for_wk (S := g.l) (Wk.list (SqL.of hp1) (Z1.lstN hp1)) (fun i σ Hc => Kp g.l HA Hc ∧ ∃ ws S x7 x8, σ = [some (.ref a), some (.ref lw), some (.ref lm), some (.ref d), some (.ref rd), x5, some (.int (bi b0)), x7, x8] ∧ WS P w K Hc g ws S (pw2 (3 * i)))
        ⟨Kp.refl, ws, S, none, none, rfl, Z1⟩ (fun i σ Hc h => h.1) ?_ ?_⟩
      · rintro i v σ Hc Hd hi ⟨kc1, ws1, S1, x7, x8, rfl, Z2⟩ sd hv
        have hi : i < 2 := hi
        obtain ⟨b, rfl⟩ : ∃ b, v = .int (bi b) := by
          match i, hi, hv with
          | 0, _, hv => exact ⟨b0, (Option.some.inj hv).symm⟩
          | 1, _, hv => exact ⟨!b0, by rw [← bi_not]; exact (Option.some.inj hv).symm⟩
        have Zd := Z2.same sd
        have Gb := Zd.G b
        have n3 := Gb.names3
        have dgm : DGet Hd (g.M b).m (.str "names") (some (.ref (g.M b).nm)) := by rw [← mo_names]; exact DGet.k (k := .inr "names") (Zd.M b).obj
        refine ⟨_, rfl, _, rfl, lm, _, _, _, rfl, rfl, SqL.of Zd.lm, am g b, (g.M b).m, .ref (g.M b).nm, rfl, dgm, (g.M b).nm, _, (S1 b).names.map (·.1), rfl, .inl (Zd.M b).nm, calledK_keys, by rw [List.length_map]; omega, fun ys p2 hy _ np2 => ?_⟩
        have yl : ys.length ≤ 3 := by
          have := hy.length_eq
          rw [List.length_map] at this
          omega
        have s2' : Same Hd (upd Hd p2 (.lst (ys.map V.str))) := Same.new np2
        have hp2 : (upd Hd p2 (.lst (ys.map V.str))) p2 = some (.lst (ys.map V.str)) := upd_same
        have Z3 := Zd.same s2'
        have kA : Kp g.l HA (upd Hd p2 (.lst (ys.map V.str))) := (kc1.trans (.same sd)).trans (.same s2')
        generalize upd Hd p2 (.lst (ys.map V.str)) = HB at s2' hp2 Z3 kA
        refine ⟨p2, rfl, ⟨_, SqL.of hp2⟩, for_wk (S := g.l) (Wk.list (SqL.of hp2) (Z3.lstN hp2)) (fun j σ Hc => Kp g.l HB Hc ∧ ∃ S' x8, σ = [some (.ref a), some (.ref lw), some (.ref lm), some (.ref d), some (.ref rd), x5, some (.int (bi b0)), some (.int (bi b)), x8] ∧ S' b = S1 b ∧ WS P w K Hc g ws1 S' (pw2 (3 * i + j)))
          ⟨Kp.refl, S1, _, rfl, rfl, Z3⟩ (fun i σ Hc h => h.1) ?_ ?_⟩
        · rintro j v σ He Hf hj ⟨ke, S', x8', rfl, eS, Ze⟩ sf hv
          rw [List.getElem?_map] at hv
          obtain ⟨nm, hnm, rfl⟩ := Option.map_eq_some_iff.mp hv
          rw [List.length_map] at hj
          have hmem := hy.mem_iff.mp (List.mem_of_getElem? hnm)
          obtain ⟨n, hn⟩ := getN_some hmem
          have Zf := Ze.same sf
          have b5 := pw2_le (m := 3 * i + j) (n := 5) (by omega)
          have b6 := pw2_le (m := 3 * i + (j + 1)) (n := 6) (by omega)
          rw [pw2_5] at b5
          rw [pw2_6] at b6
          refine ⟨_, rfl, _, rfl, _, rfl, _, rfl, _, rfl, g, ws1, S', _, b, nm, n, rfl, Zf, by rw [eS]; exact hn, by omega, fun Hg S2 kg Zg => ⟨_, rfl, iteF ?_⟩⟩
          rw [← pw2_succ] at Zg
          refine ⟨_, rfl, _, rfl, g, ws1, _, _, rfl, Zg, by have : 3 * i + j + 1 = 3 * i + (j + 1) := rfl; rw [this]; omega, fun Hh sh => ⟨_, rfl, iteF ⟨(ke.trans (.same sf)).trans (kg.trans (.same sh)), _, _, rfl, ?_, Zg.same sh⟩⟩⟩
          rw [updB_ne (not_ne b)]
          exact eS
        · rintro σ He ⟨ke, S', x8', rfl, eS, Ze⟩
          refine ⟨kA.trans ke, ws1, S', _, _, rfl, Ze.up (pw2_le ?_)⟩
          rw [List.length_map]
          omega
      · rintro σ Hd ⟨kd, ws1, S1, x7, x8, rfl, Z2⟩
        have Z2 : WS P w K Hd g ws1 S1 15998 := by
          have e : pw2 (3 * [V.int (bi b0), V.int (1 - bi b0)].length) = 15998 := pw2_6
          rw [e] at Z2
          exact Z2
        refine ⟨2, rfl, by decide, by decide, for_range (lo := 0) (n := 2) (fun i σ Hc => ∃ ws S x5 x7 x8, σ = [some (.ref a), some (.ref lw), some (.ref lm), some (.ref d), some (.ref rd), x5, some (.int (bi b0)), x7, x8] ∧ WS P w K Hc g ws S 15998)
          ⟨ws1, S1, _, _, _, rfl, Z2⟩ ?_ ?_⟩
        · rintro i σ He hi ⟨ws2, S2, y5, y7, y8, rfl, Z3⟩
          obtain ⟨b, hb⟩ := bi_of (r := 0 + (i : Int)) (by omega) (by omega)
          have bnd := Z3.bnd b
          rw [hb]
          refine ⟨_, rfl, _, rfl, lw, _, _, _, rfl, rfl, SqL.of Z3.lw, aw g b, _, rfl, _, rfl, lm, _, _, _, rfl, rfl, SqL.of Z3.lm, am g b, by show 0 ≤ sizeLine; omega, fun l nl => ?_⟩
          have s4' : Same He (upd He l (.lst [])) := Same.new nl
          have Z4 := Z3.same s4'
          refine ⟨g.F b, g.M b, S2 b, ws2, [], l, rfl, upd_same, Z4.W b, Z4.M b, Z4.G b, by omega, by show 0 < 100; decide, Z3.ap1 b b, fun Hf kf Wf Mf => ⟨_, rfl, iteF ⟨ws2, updB S2 b ((S2 b).stay []), _, _, _, rfl, ?_⟩⟩⟩
          have kD : Kp (g.d :: g.side b) (upd He l (.lst [])) Hf := kf.mono fun a ha => List.mem_cons_of_mem _ ha
          exact Z4.upd b kD Wf Mf (Z4.wld.kp kf (Z4.apd b)) (Good.stay (Z4.G b) []) (fun _ _ h => h) (Int.le_refl _) (Z4.bnd b) (by show (ws2.length : Int) - ws2.length ≤ (S2 b).next - (S2 b).next; omega)
        · rintro σ He ⟨ws2, S2, y5, y7, y8, rfl, Z3⟩
          exact ⟨_, rfl, _, rfl, g, ws2, S2, 15998, rfl, Z3, by omega, fun Hf _ => q Hf⟩
end
end Mw


/-! One kernel run of the top. -/
namespace Mw
open PySem PySem.Spec PyProof.Rows L2
def loose0 : List Str := [PySem.Str.ofString "WoodError", PySem.Str.ofString "NoStand", PySem.Str.ofString "Ended", PySem.Str.ofString "NoMake", PySem.Str.ofString "NoName", PySem.Str.ofString "line_of", PySem.Str.ofString "alike_makes", PySem.Str.ofString "lacking", PySem.Str.ofString "Road", PySem.Str.ofString "come_to", PySem.Str.ofString "written_text", PySem.Str.ofString "written_clash", PySem.Str.ofString "written_where", PySem.Str.ofString "written_item", PySem.Str.ofString "written_items", PySem.Str.ofString "SMALL", PySem.Str.ofString "FIGURES", PySem.Str.ofString "MOST_SIGNS", PySem.Str.ofString "MOST_LETTERS", PySem.Str.ofString "MOST_WORDS", PySem.Str.ofString "MOST_FIGURES", PySem.Str.ofString "is_text_of", PySem.Str.ofString "is_line", PySem.Str.ofString "is_word", PySem.Str.ofString "is_path", PySem.Str.ofString "is_root", PySem.Str.ofString "is_clash", PySem.Str.ofString "is_item", PySem.Str.ofString "is_items", PySem.Str.ofString "is_place"]
def loose1 : List Str := [PySem.Str.ofString "is_where", PySem.Str.ofString "is_row", PySem.Str.ofString "is_stand", PySem.Str.ofString "Wood", PySem.Str.ofString "_law_cell_at", PySem.Str.ofString "_law_feed", PySem.Str.ofString "_law_take", PySem.Str.ofString "_law_words", PySem.Str.ofString "_law_written", PySem.Str.ofString "_law_items", PySem.Str.ofString "_law_where", PySem.Str.ofString "_law_stand", PySem.Str.ofString "_law_id", PySem.Str.ofString "_law_put", PySem.Str.ofString "_law_model", PySem.Str.ofString "_law_elders", PySem.Str.ofString "_law_line", PySem.Str.ofString "_law_is_wood", PySem.Str.ofString "_law_alike", PySem.Str.ofString "_law_put_in", PySem.Str.ofString "_law_put_in_both", PySem.Str.ofString "_law_put_some", PySem.Str.ofString "_law_lacking", PySem.Str.ofString "_law_step", PySem.Str.ofString "_law_named", PySem.Str.ofString "_law_let_go", PySem.Str.ofString "_law_stepped", PySem.Str.ofString "_law_deed", PySem.Str.ofString "_law_brought", PySem.Str.ofString "_law_whole_woods"]
def looseM : List Str := loose0 ++ loose1
theorem runM (w : World) : HandSHeadRun.RunEq RR (PySem.W.view RR.prog [68]) hkM obM 4000 looseM w := by
  intro os
  kernel_rfl
end Mw

/-! The end. -/
namespace Mw
open PySem PySem.Spec PyProof.Rows L2
theorem endF {P : Program} {w : World} {K : PySem.W.Frag} {h : Heap} {mg : Str → Option Value} {f : Addr} (X : K.In h) (G : h.Ns mainGlobals mg) (hfa : mg ("law" : Str) = some (.ref f)) (c : SaysM K) :
    ∃ fd : FuncData, (∀ (s : Shared) (v : Value), BindsTo s fd ⟨[v], []⟩ [("_law_script", v)]) ∧ ∀ base : Heap, K.In base → base.Ns mainGlobals mg → FnOk P w K mg base CX0 13 f fd ["_law_script"] (spLaw K) := by
  have T : Tx K mg := ⟨⟨h, X, G⟩, c⟩
  have e := hfa.symm.trans T.g_law
  cases e
  have b := FunD.bindsA (ps := ["_law_script"]) T.fLaw fun _ _ _ _ _ _ us hl => match us, hl with | [_], _ => rfl
  exact ⟨fdA K ("law", none), fun s v => b s [v] rfl, fun base _ _ => ok_law T⟩
end Mw
open PySem PySem.W PySem.Calls PyProof.Rows
theorem PySem.Challenge.cw_makeswood_k98_whole_roads_that_stop_holds : PySem.Challenge.rw_makeswood_k98_whole_roads_that_stop.Holds := by
  w_on; o_law
  refine HandSHeadRun.head_any (r := OpenLaw.row PySem.Challenge.rw_makeswood_k98_whole_roads_that_stop) (q := view (OpenLaw.row PySem.Challenge.rw_makeswood_k98_whole_roads_that_stop).prog [68]) (H := Mw.hkM) (ob := Mw.obM) (M := 4000) (loose := Mw.looseM) (d := HandSHeadRun.topDef (OpenLaw.row PySem.Challenge.rw_makeswood_k98_whole_roads_that_stop).prog 68) (kwd := []) Mw.obM_eq
    (by kernel_rfl) (fun s => by kernel_rfl) Mw.runM (by kernel_rfl) (by kernel_rfl) (by kernel_rfl) (by rfl) (by first | assumption | decide +kernel) (by decide +kernel) ⟨rfl, rfl, rfl, rfl, rfl, by decide +kernel⟩ ?hw ?hc
  case hw => w_witness2
  case hc =>
    refine L2.walk_ofE (l := PySem.Challenge.rw_makeswood_k98_whole_roads_that_stop) (n := 63) (k := 13) (x := "_law_script") (CX := L2.CX0) rfl (by decide) (by kernel_rfl) ⟨rfl, by decide, by decide⟩ ?F (fun _ _ _ _ z => z)
    intro w mg fa h Y G hmg0
    obtain ⟨K, KX, c⟩ := Y
    have hmg : mg ("law" : PySem.Str) = some (.ref fa) := by
      have e : (HandSHeadRun.topDef (OpenLaw.row PySem.Challenge.rw_makeswood_k98_whole_roads_that_stop).prog 68).name = ("law" : PySem.Str) := by kernel_rfl
      rw [← e]
      exact hmg0
    obtain ⟨fd, hb, hF⟩ := Mw.endF (P := (PySem.Challenge.rw_makeswood_k98_whole_roads_that_stop).prog) (w := w) KX G hmg c
    exact ⟨K, fd, Mw.spLaw K, KX, hb, fun H a ns hl hO hS => ⟨a, ns, rfl, hS, hO, hl, fun _ => rfl⟩, hF⟩
