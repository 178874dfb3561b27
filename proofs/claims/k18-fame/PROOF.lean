import PyProof.Rows.All
import HandS.ForMost
import HandS.Wide
import HandS.EndBits
import HandS.TupAny
import HandS.TupMul
import HandS.Deep
import HandS.Conv
import HandS.Zip
import HandS.Walk
import HandS.Gcd
import HandS.Style
import HandS.Flow
import HandS.Lambda
import HandS.Dict
import HandS.Exc
import HandS.TupLen
import KE.GoesEnum
import KE.GoesMore
import HandS.More
import PyProof.P3Eq
import HandS.IsInst
import Flt.RightSqrt
import KE.KDictZip
import HandS.SortInts
import HandS.TupSets
import PyProof.StrOps2
import HandS.SortRule
import HandS.Star
import HandS.Strs
import HandS.TupLe
import KE.GoesZip
import KE.SortData
import HandS.ExcValue
import PyProof.MaxThree
import HandS.DictComp
import HandS.Iter
import KE.KDictSum
import KE.KDictCopyH
import HandS.Keys
import KE.SortKeyHeap
import HandS.SortKw
import PySem.Challenge.RW_lampsaloft_k18_fame_and_goals
set_option Elab.async false
set_option linter.all false
set_option maxRecDepth 100000
set_option maxHeartbeats 0
/-! own layer: abstract data over the hand layer -/
namespace Dl
open PySem PySem.Spec L2

/-! ## tables of code objects; what was tracked stays -/
/-- the tables that lambdas are looked up in, with the names of what they tell -/
class LamT where
  T : List (Addr × Str)
  /-- whether tuples of the written part are reached -/
  st : Bool
variable [LamT]
def isTbl : HO → Bool
  | .tbl _ => true
  | _ => false
structure Same (H H' : Hp) : Prop where
  at_ : ∀ b o, H b = some o → (k : isTbl o = false := by rfl) → H' b = some o
  tb : ∀ b ps, H b = some (.tbl ps) → ∃ qs, H' b = some (.tbl qs)
  tabs : LamX.Tabs LamT.T H → LamX.Tabs LamT.T H'
theorem Same.refl (H : Hp) : Same H H := ⟨fun _ _ h _ => h, fun _ ps h => ⟨ps, h⟩, id⟩
theorem Same.trans {H H1 H2 : Hp} (a : Same H H1) (b : Same H1 H2) : Same H H2 := ⟨fun c o h k => b.at_ c o (a.at_ c o h k) k, fun c ps h => (a.tb c ps h).elim fun qs q => b.tb c qs q, fun t => b.tabs (a.tabs t)⟩
theorem Same.keep {H H' : Hp} (e : ∀ b o, H b = some o → H' b = some o) : Same H H' := ⟨fun b o h _ => e b o h, fun b ps h => ⟨ps, e b _ h⟩, fun t => t.ext e⟩
theorem Same.free {H H' : Hp} (e : Same H H') {l : Addr} (h : H' l = Option.none) : H l = Option.none := by
  cases q : H l with
  | none => rfl
  | some o =>
    cases k : isTbl o with
    | false =>
      rw [e.at_ l o q k] at h
      cases h
    | true =>
      cases o <;> try cases k
      obtain ⟨qs, z⟩ := e.tb _ _ q
      rw [z] at h
      cases h
theorem Same.seq {K : PySem.W.Frag} {H H' : Hp} {a : Addr} {xs : List V} (e : Same H H') (h : SqL K H a xs) : SqL K H' a xs := by
  rcases h with (h | ⟨o, h⟩) | h
  · exact .inl (.inl (e.at_ _ _ h))
  · exact .inl (.inr ⟨o, e.at_ _ _ h⟩)
  · exact .inr h

theorem tabs_upd {T : List (Addr × Str)} {H : Hp} {p : Addr} {u o : HO} (h : H p = some u) (h1 : ∀ ps, u ≠ .tbl ps) (h2 : ∀ c q, u ≠ LamX.CodeO c q) (t : LamX.Tabs T H) : LamX.Tabs T (upd H p o) := fun b hb => by
  obtain ⟨ps, a1, a2, a3⟩ := t b hb
  have n1 : b.1 ≠ p := fun z => by
    rw [z, h] at a1
    exact h1 _ (Option.some.inj a1)
  refine ⟨ps, by rw [upd_ne n1]; exact a1, a2, fun pos cv hcv => ?_⟩
  obtain ⟨c, e1, e2⟩ := a3 pos cv hcv
  have n2 : c ≠ p := fun z => by
    rw [z, h] at e2
    exact h2 _ _ (Option.some.inj e2)
  exact ⟨c, e1, by rw [upd_ne n2]; exact e2⟩
theorem tabs_lst {T : List (Addr × Str)} {H : Hp} {p : Addr} {xs : List V} {o : HO} (h : H p = some (.lst xs)) (t : LamX.Tabs T H) : LamX.Tabs T (upd H p o) := tabs_upd h (fun _ z => nomatch z) (fun c q z => by unfold LamX.CodeO at z; cases z) t
theorem same_lst {H H1 : Hp} {p : Addr} {xs : List V} {o : HO} (e : Same H H1) (hn : H p = none) (h : H1 p = some (.lst xs)) : Same H (upd H1 p o) := by
  have ne : ∀ {b u}, H b = some u → b ≠ p := fun {b u} hb z => by
    rw [z, hn] at hb
    cases hb
  exact ⟨fun b u hb k => by rw [upd_ne (ne hb)]; exact e.at_ b u hb k, fun b ps hb => by rw [upd_ne (ne hb)]; exact e.tb b ps hb, fun t => tabs_lst h (e.tabs t)⟩

/-! ## what never changes -/
def keeps : HO → Bool
  | .tup _ => true
  | .frz _ _ => true
  | .ext _ => true
  | _ => false
def Per (H H' : Hp) : Prop := ∀ a o, H a = some o → keeps o = true → H' a = some o
theorem Per.refl (H : Hp) : Per H H := fun _ _ h _ => h
theorem Per.trans {A B C : Hp} (x : Per A B) (y : Per B C) : Per A C := fun a o h k => y a o (x a o h k) k
theorem per_same {H H' : Hp} (e : Same H H') : Per H H' := fun a o h k => e.at_ a o h (by cases o <;> first | rfl | cases k)
theorem same_new {H : Hp} {p : Addr} {o : HO} (h : H p = none) : Same H (upd H p o) := .keep fun b x e => by
  rw [upd_ne (ne_of_none e h)]
  exact e
theorem per_upd {H : Hp} {p : Addr} {u o : HO} (h : H p = some u) (k : keeps u = false) : Per H (upd H p o) := fun a x e kx => by
  have hne : a ≠ p := fun q => by
    subst q
    rw [h] at e
    cases e
    rw [k] at kx
    cases kx
  rw [upd_ne hne]
  exact e

def Stat (K : PySem.W.Frag) (T : String) (a : Addr) (xs : List V) : Prop :=
  ∃ (o : Obj) (its : Array Value) (n : Nat), K.lookup a = some o ∧ o.cls = .type T ∧ o.dict = none ∧ o.data = .seq its n ∧ its.size ≤ sizeLine ∧ Vals xs its.toList
/-- a locked list -/
def FzL (H : Hp) (a : Addr) (xs : List V) : Prop := ∃ o, H a = some (.frz o (.lst xs))
theorem FzL.seq {K : PySem.W.Frag} {H : Hp} {a : Addr} {xs : List V} (h : FzL H a xs) : SqL K H a xs := .inl (.inr h)
theorem FzL.per {H H' : Hp} {a : Addr} {xs : List V} (e : Per H H') (h : FzL H a xs) : FzL H' a xs := by
  obtain ⟨o, h⟩ := h
  exact ⟨o, e _ _ h rfl⟩
theorem sqt_per {K : PySem.W.Frag} {H H' : Hp} {a : Addr} {xs : List V} (e : Per H H') (h : SqT K H a xs) : SqT K H' a xs := by
  rcases h with (h | ⟨o, h⟩) | h
  · exact .inl (.inl (e _ _ h rfl))
  · exact .inl (.inr ⟨o, e _ _ h rfl⟩)
  · exact .inr h
/-- a list lent by the caller, or locked since -/
def SqB (K : PySem.W.Frag) (B H : Hp) (a : Addr) (xs : List V) : Prop := SqL K B a xs ∨ FzL H a xs
theorem sql_same {K : PySem.W.Frag} {H H' : Hp} {a : Addr} {xs : List V} (e : Same H H') (h : SqL K H a xs) : SqL K H' a xs := e.seq h

theorem SqB.seq {K : PySem.W.Frag} {B H : Hp} {a : Addr} {xs : List V} (e : Same B H) (h : SqB K B H a xs) : SqL K H a xs := h.elim (fun q => sql_same e q) FzL.seq
theorem SqB.per {K : PySem.W.Frag} {B H H' : Hp} {a : Addr} {xs : List V} (e : Per H H') (h : SqB K B H a xs) : SqB K B H' a xs := h.elim .inl fun q => .inr (q.per e)

/-! ## immutable data -/
def kD : Key → PyData
  | .inl i => .int i
  | .inr x => .str x
def tD (ks : List Key) : PyData := .tuple (ks.map kD)
def kvD (kds : List (Key × PyData)) : List (PyData × PyData) := kds.map fun p => (kD p.1, p.2)
def tvD (kds : List (List Key × PyData)) : List (PyData × PyData) := kds.map fun p => (tD p.1, p.2)
/-- what the constants of the program hold -/
def exV (_ : List V) : Prop := False
/-- a tuple that is tracked, or one of the written part -/
def Trk (H : Hp) (a : Addr) (xs : List V) : Prop := (LamT.st = true ∨ exV xs) ∨ H a = some (.tup xs)
theorem Trk.per {H H' : Hp} {a : Addr} {xs : List V} (e : Per H H') (h : Trk H a xs) : Trk H' a xs := h.elim .inl fun h => .inr (e _ _ h rfl)
/-- a locked dict, its keys ints and texts -/
def FzD (H : Hp) (a : Addr) (kvs : List (Key × V)) : Prop := ∃ o, H a = some (.frz o (.dK kvs))
theorem FzD.per {H H' : Hp} {a : Addr} {kvs : List (Key × V)} (e : Per H H') (h : FzD H a kvs) : FzD H' a kvs := by
  obtain ⟨o, h⟩ := h
  exact ⟨o, e _ _ h rfl⟩
mutual
inductive Im (K : PySem.W.Frag) (H : Hp) : V → PyData → Prop
  | non : Im K H .non .none
  | bl (b : Bool) : Im K H (.bl b) (.bool b)
  | int (i : Int) : Im K H (.int i) (.int i)
  | str (x : Str) : Im K H (.str x) (.str x)
  | lst {a : Addr} {xs : List V} {ds : List PyData} : FzL H a xs → ImAll K H xs ds → Im K H (.ref a) (.list ds)
  | tup {a : Addr} {xs : List V} {ds : List PyData} : SqT K H a xs → ImAll K H xs ds → Trk H a xs → Im K H (.ref a) (.tuple ds)
  | dic {a : Addr} {kvs : List (Key × V)} {es : List (PyData × PyData)} (kds : List (Key × PyData)) : FzD H a kvs → ImD K H kvs kds → es = kvD kds → Im K H (.ref a) (.dict es)
inductive ImAll (K : PySem.W.Frag) (H : Hp) : List V → List PyData → Prop
  | nil : ImAll K H [] []
  | cons {v : V} {vs : List V} {d : PyData} {ds : List PyData} : Im K H v d → ImAll K H vs ds → ImAll K H (v :: vs) (d :: ds)
inductive ImD (K : PySem.W.Frag) (H : Hp) : List (Key × V) → List (Key × PyData) → Prop
  | nil : ImD K H [] []
  | cons {k : Key} {v : V} {kvs : List (Key × V)} {d : PyData} {kds : List (Key × PyData)} : Im K H v d → ImD K H kvs kds → ImD K H ((k, v) :: kvs) ((k, d) :: kds)
end
section
variable {K : PySem.W.Frag} {H H' : Hp}
mutual
theorem Im.per (e : Per H H') : ∀ {v : V} {d : PyData}, Im K H v d → Im K H' v d
  | _, _, .non => .non
  | _, _, .bl b => .bl b
  | _, _, .int i => .int i
  | _, _, .str x => .str x
  | _, _, .lst h1 h2 => .lst (h1.per e) (ImAll.per e h2)
  | _, _, .tup h1 h2 h3 => .tup (sqt_per e h1) (ImAll.per e h2) (h3.per e)
  | _, _, .dic kds h1 h2 h3 => .dic kds (h1.per e) (ImD.per e h2) h3
theorem ImAll.per (e : Per H H') : ∀ {vs : List V} {ds : List PyData}, ImAll K H vs ds → ImAll K H' vs ds
  | _, _, .nil => .nil
  | _, _, .cons h1 h2 => .cons (Im.per e h1) (ImAll.per e h2)
theorem ImD.per (e : Per H H') : ∀ {vs : List (Key × V)} {ds : List (Key × PyData)}, ImD K H vs ds → ImD K H' vs ds
  | _, _, .nil => .nil
  | _, _, .cons h1 h2 => .cons (Im.per e h1) (ImD.per e h2)
end
mutual
theorem Im.dp : ∀ {v : V} {d : PyData}, Im K H v d → d.hasDict = false → Dp K H v d
  | _, _, .non, _ => .non
  | _, _, .bl b, _ => .bl b
  | _, _, .int i, _ => .int i
  | _, _, .str x, _ => .str x
  | _, _, .lst h1 h2, c => .lst h1.seq (ImAll.dp h2 (by simpa only [PyData.hasDict] using c))
  | _, _, .tup h1 h2 _, c => .tup h1 (ImAll.dp h2 (by simpa only [PyData.hasDict] using c))
  | _, _, .dic _ _ _ _, c => by simp only [PyData.hasDict] at c; cases c
theorem ImAll.dp : ∀ {vs : List V} {ds : List PyData}, ImAll K H vs ds → PyData.hasDictAll ds = false → DpAll K H vs ds
  | _, _, .nil, _ => .nil
  | _, _, .cons h1 h2, c => by
    simp only [PyData.hasDictAll, Bool.or_eq_false_iff] at c
    exact .cons (Im.dp h1 c.1) (ImAll.dp h2 c.2)
end
theorem Im.to {v : V} {d : PyData} (h : Im K H v d) (e : Per H H') : Im K H' v d := Im.per e h
theorem ImAll.to {vs : List V} {ds : List PyData} (h : ImAll K H vs ds) (e : Per H H') : ImAll K H' vs ds := ImAll.per e h
theorem ImD.to {vs : List (Key × V)} {ds : List (Key × PyData)} (h : ImD K H vs ds) (e : Per H H') : ImD K H' vs ds := ImD.per e h
mutual
theorem nd_of_lay : ∀ d : PyData, d.canLay0 = true → d.hasDict = false
  | .none, _ => by simp only [PyData.hasDict]
  | .bool _, _ => by simp only [PyData.hasDict]
  | .int _, _ => by simp only [PyData.hasDict]
  | .str _, _ => by simp only [PyData.hasDict]
  | .list ds, h => by
    simp only [PyData.hasDict]
    exact nd_of_lays ds (by simpa only [PyData.canLay0] using h)
  | .tuple ds, h => by
    simp only [PyData.hasDict]
    exact nd_of_lays ds (by simpa only [PyData.canLay0] using h)
  | .dict _, h => by simp only [PyData.canLay0] at h; cases h
theorem nd_of_lays : ∀ ds : List PyData, PyData.canLayAll0 ds = true → PyData.hasDictAll ds = false
  | [], _ => by simp only [PyData.hasDictAll]
  | d :: ds, h => by
    simp only [PyData.canLayAll0, Bool.and_eq_true] at h
    simp only [PyData.hasDictAll, nd_of_lay d h.1, nd_of_lays ds h.2, Bool.or_self]
end
theorem nd_of_shaped {d : PyData} (h : SeqAt.shaped d = true) : d.hasDict = false := nd_of_lay d (SeqAt.canLay_of_shaped h)
theorem Im.toDp {v : V} {d : PyData} (h : Im K H v d) (c : d.hasDict = false) : Dp K H v d := Im.dp h c
theorem ImAll.toDp {vs : List V} {ds : List PyData} (h : ImAll K H vs ds) (c : PyData.hasDictAll ds = false) : DpAll K H vs ds := ImAll.dp h c
theorem ImAll.length : ∀ {vs : List V} {ds : List PyData}, ImAll K H vs ds → vs.length = ds.length
  | _, _, .nil => rfl
  | _, _, .cons _ h => by simp [h.length]
theorem ImAll.get : ∀ {vs : List V} {ds : List PyData} {i : Nat} {d : PyData}, ImAll K H vs ds → ds[i]? = some d → ∃ v, vs[i]? = some v ∧ Im K H v d
  | _, _, _, _, .nil, e => by simp at e
  | _, _, 0, _, .cons h _, e => by
    simp at e
    subst e
    exact ⟨_, rfl, h⟩
  | _, _, i + 1, _, .cons _ h, e => by
    obtain ⟨v, h1, h2⟩ := h.get (i := i) (by simpa using e)
    exact ⟨v, by simpa using h1, h2⟩
theorem ImAll.getV : ∀ {vs : List V} {ds : List PyData} {i : Nat} {v : V}, ImAll K H vs ds → vs[i]? = some v → ∃ d, ds[i]? = some d ∧ Im K H v d
  | _, _, _, _, .nil, e => by simp at e
  | _, _, 0, _, .cons h _, e => by
    simp at e
    subst e
    exact ⟨_, rfl, h⟩
  | _, _, i + 1, _, .cons _ h, e => by
    obtain ⟨v, h1, h2⟩ := h.getV (i := i) (by simpa using e)
    exact ⟨v, by simpa using h1, h2⟩
theorem ImAll.append : ∀ {vs ws : List V} {ds es : List PyData}, ImAll K H vs ds → ImAll K H ws es → ImAll K H (vs ++ ws) (ds ++ es)
  | _, _, _, _, .nil, s => s
  | _, _, _, _, .cons r t, s => .cons r (t.append s)
theorem ImAll.one {v : V} {d : PyData} (h : Im K H v d) : ImAll K H [v] [d] := .cons h .nil
theorem ImAll.set {v : V} {d : PyData} (h : Im K H v d) : ∀ {vs : List V} {ds : List PyData} (i : Nat), ImAll K H vs ds → ImAll K H (vs.set i v) (ds.set i d)
  | _, _, _, .nil => .nil
  | _, _, 0, .cons _ t => .cons h t
  | _, _, i + 1, .cons q t => .cons q (ImAll.set h i t)
theorem ImAll.take : ∀ {vs : List V} {ds : List PyData} (n : Nat), ImAll K H vs ds → ImAll K H (vs.take n) (ds.take n)
  | _, _, 0, _ => .nil
  | _, _, _ + 1, .nil => .nil
  | _, _, n + 1, .cons q t => .cons q (ImAll.take n t)
theorem ImAll.drop : ∀ {vs : List V} {ds : List PyData} (n : Nat), ImAll K H vs ds → ImAll K H (vs.drop n) (ds.drop n)
  | _, _, 0, h => h
  | _, _, _ + 1, .nil => .nil
  | _, _, n + 1, .cons _ t => ImAll.drop n t
theorem ImAll.dropLast : ∀ {vs : List V} {ds : List PyData}, ImAll K H vs ds → ImAll K H vs.dropLast ds.dropLast
  | _, _, .nil => .nil
  | _, _, .cons _ .nil => .nil
  | _, _, .cons q (.cons r t) => .cons q (ImAll.dropLast (.cons r t))
theorem ImAll.reverse : ∀ {vs : List V} {ds : List PyData}, ImAll K H vs ds → ImAll K H vs.reverse ds.reverse
  | _, _, .nil => .nil
  | _, _, .cons q t => by
    rw [List.reverse_cons, List.reverse_cons]
    exact t.reverse.append (.one q)
theorem ImAll.repl {vs : List V} {ds : List PyData} (h : ImAll K H vs ds) : ∀ k : Nat, ImAll K H (List.replicate k vs).flatten (List.replicate k ds).flatten
  | 0 => .nil
  | k + 1 => by
    rw [List.replicate_succ, List.replicate_succ, List.flatten_cons, List.flatten_cons]
    exact h.append (h.repl k)
theorem ImAll.ints : ∀ ns : List Int, ImAll K H (ns.map V.int) (ns.map PyData.int)
  | [] => .nil
  | n :: ns => .cons (.int n) (ImAll.ints ns)
theorem ImAll.of_ints : ∀ {ns : List Int} {vs : List V}, ImAll K H vs (ns.map PyData.int) → vs = ns.map V.int
  | [], _, h => by cases h; rfl
  | n :: ns, _, h => by
    cases h with
    | cons h1 h2 =>
      cases h1
      rw [ImAll.of_ints h2]
      rfl
theorem ImAll.of_bls : ∀ {bs : List Bool} {vs : List V}, ImAll K H vs (bs.map PyData.bool) → vs = bs.map V.bl
  | [], _, h => by cases h; rfl
  | n :: ns, _, h => by
    cases h with
    | cons h1 h2 =>
      cases h1
      rw [ImAll.of_bls h2]
      rfl
end
/-- a list's or tuple's part -/
def cutD (ds : List PyData) (lo hi : Option Int) : List PyData := (ds.drop (HT.sIx ds.length 0 lo)).take (HT.sIx ds.length ds.length hi - HT.sIx ds.length 0 lo)
theorem ImAll.cut {K : PySem.W.Frag} {H : Hp} {vs : List V} {ds : List PyData} (h : ImAll K H vs ds) (lo hi : Option Int) : ImAll K H (cutV vs lo hi) (cutD ds lo hi) := by
  unfold cutV cutD
  rw [h.length]
  exact (h.drop _).take _

/-! ## what a dict holds: by ints and texts, by tuples of them -/
abbrev KP {κ : Type} (K : PySem.W.Frag) (H : Hp) : List (κ × V) → List (κ × PyData) → Prop := Paired fun p q => p.1 = q.1 ∧ Im K H p.2 q.2
theorem KP.per {κ : Type} {K : PySem.W.Frag} {H H' : Hp} {kvs : List (κ × V)} {kds : List (κ × PyData)} (e : Per H H') (h : KP K H kvs kds) : KP K H' kvs kds := Paired.mapP h fun _ _ z => ⟨z.1, z.2.to e⟩
theorem ImD.kp {K : PySem.W.Frag} {H : Hp} : ∀ {kvs : List (Key × V)} {kds : List (Key × PyData)}, ImD K H kvs kds → KP K H kvs kds
  | _, _, .nil => .nil
  | _, _, .cons h1 h2 => .cons ⟨rfl, h1⟩ h2.kp
theorem KP.imD {K : PySem.W.Frag} {H : Hp} : ∀ {kvs : List (Key × V)} {kds : List (Key × PyData)}, KP K H kvs kds → ImD K H kvs kds
  | _, _, .nil => .nil
  | (_, _) :: _, (_, _) :: _, .cons ⟨h1, h2⟩ h3 => by
    cases h1
    exact .cons h2 (KP.imD h3)
inductive DicIs (K : PySem.W.Frag) (H : Hp) : Bool → HO → List (PyData × PyData) → Prop
  | k {kvs : List (Key × V)} {kds : List (Key × PyData)} : KP K H kvs kds → DicIs K H false (.dK kvs) (kvD kds)
  | t {kvs : List (List Key × V)} {kds : List (List Key × PyData)} : KP K H kvs kds → DicIs K H true (.dT kvs) (tvD kds)
theorem DicIs.per {K : PySem.W.Frag} {H H' : Hp} {t : Bool} {o : HO} {ds : List (PyData × PyData)} (e : Per H H') (h : DicIs K H t o ds) : DicIs K H' t o ds := by
  cases h with
  | k h => exact .k (h.per e)
  | t h => exact .t (h.per e)
theorem DicIs.free {K : PySem.W.Frag} {H : Hp} {t : Bool} {o : HO} {ds : List (PyData × PyData)} (h : DicIs K H t o ds) : keeps o = false ∧ isTbl o = false := by
  cases h <;> exact ⟨rfl, rfl⟩
theorem DicIs.mut {K : PySem.W.Frag} {H : Hp} {t : Bool} {o : HO} {ds : List (PyData × PyData)} (h : DicIs K H t o ds) : Mut (some o) := by
  cases h <;> trivial
theorem DicIs.notl {K : PySem.W.Frag} {H : Hp} {t : Bool} {o : HO} {ds : List (PyData × PyData)} (h : DicIs K H t o ds) : (∀ ps, o ≠ .tbl ps) ∧ (∀ c q, o ≠ LamX.CodeO c q) := by
  cases h <;> exact ⟨fun _ z => (nomatch z), fun c q z => by unfold LamX.CodeO at z; cases z⟩
/-- a dict lent by the caller, or locked since -/
def RdB (B H : Hp) (a : Addr) (o : HO) : Prop := Rd B a o ∨ ∃ ob, H a = some (.frz ob o)
theorem RdB.per {B H H' : Hp} {a : Addr} {o : HO} (e : Per H H') (h : RdB B H a o) : RdB B H' a o := h.elim .inl fun ⟨ob, q⟩ => .inr ⟨ob, e _ _ q rfl⟩
theorem RdB.rd {B H : Hp} {a : Addr} {o : HO} (e : Same B H) (k : isTbl o = false) (h : RdB B H a o) : Rd H a o := by
  rcases h with (h | ⟨ob, h⟩) | ⟨ob, h⟩
  · exact .inl (e.at_ _ _ h k)
  · exact .inr ⟨ob, e.at_ _ _ h⟩
  · exact .inr ⟨ob, h⟩

/-! ## the bag -/
def BagO (p c : Addr) : Heap → Prop := fun h => ∃ (a s i : Int) (ta ts ti : Tok) (n : Nat),
  h.get? p = some { cls := .type "list", data := .seq #[.int a ta, .int s ts, .int i ti, .ref c] n } ∧ 0 ≤ a ∧ 0 ≤ s ∧ s < 2147483647 ∧ 0 ≤ i
def Cells (ns : List Int) : Prop := ns.length ≤ 63 ∧ ∀ n ∈ ns, 0 ≤ n
def Bag (H : Hp) (p : Addr) : Prop := ∃ (c : Addr) (ns : List Int), H p = some (.ext (BagO p c)) ∧ FzL H c (ns.map V.int) ∧ Cells ns
theorem Bag.per {H H' : Hp} {p : Addr} (e : Per H H') (h : Bag H p) : Bag H' p := by
  obtain ⟨c, ns, h1, h2, h3⟩ := h
  exact ⟨c, ns, e _ _ h1 rfl, h2.per e, h3⟩

/-- B' is B and things that never change -/
def Up (B B' : Hp) : Prop := Same B B' ∧ ∀ a o, B' a = some o → isTbl o = false → B a = some o ∨ keeps o = true
/-! ## slots, results -/
inductive Slot where
  | any | dat (d : PyData) | lst (ds : List PyData) | own (ds : List PyData) | bag | fn (P : Option V → Hp → Prop) | lstD (t : Bool) (ds : List (PyData × PyData)) | ownD (t : Bool) (ds : List (PyData × PyData))
inductive Res where
  | dat (d : PyData) | bor (ds : List PyData) | len (ds : List PyData) | fresh (ds : List PyData) | bag | borD (t : Bool) (ds : List (PyData × PyData)) | lenD (t : Bool) (ds : List (PyData × PyData)) | freshD (t : Bool) (ds : List (PyData × PyData))

def SlotOk (K : PySem.W.Frag) (B H : Hp) (o : Option V) : Slot → Prop
  | .any => True
  | .dat d => ∃ v, o = some v ∧ Im K H v d
  | .lst ds => ∃ p vs, o = some (.ref p) ∧ SqB K B H p vs ∧ ImAll K H vs ds
  | .own ds => ∃ p vs, o = some (.ref p) ∧ B p = none ∧ H p = some (.lst vs) ∧ ImAll K H vs ds
  | .bag => ∃ p, o = some (.ref p) ∧ Bag H p
  | .fn P => ∀ H', Per H H' → P o H'
  | .lstD t ds => ∃ p ob, o = some (.ref p) ∧ RdB B H p ob ∧ DicIs K H t ob ds
  | .ownD t ds => ∃ p ob, o = some (.ref p) ∧ B p = none ∧ H p = some ob ∧ DicIs K H t ob ds
def ResOk (K : PySem.W.Frag) (B H H' : Hp) (v : V) : Res → Prop
  | .dat d => Im K H' v d
  | .bor ds => ∃ p vs, v = .ref p ∧ SqB K B H' p vs ∧ ImAll K H' vs ds
  | .len ds => ∃ p vs, v = .ref p ∧ H' p = some (.lst vs) ∧ ImAll K H' vs ds
  | .fresh ds => ∃ p vs, v = .ref p ∧ H p = none ∧ H' p = some (.lst vs) ∧ ImAll K H' vs ds
  | .bag => ∃ p, v = .ref p ∧ Bag H' p
  | .borD t ds => ∃ p ob, v = .ref p ∧ RdB B H' p ob ∧ DicIs K H' t ob ds
  | .lenD t ds => ∃ p ob, v = .ref p ∧ H' p = some ob ∧ DicIs K H' t ob ds
  | .freshD t ds => ∃ p ob, v = .ref p ∧ H p = none ∧ H' p = some ob ∧ DicIs K H' t ob ds
def isOwn : Slot → Bool
  | .own _ => true
  | .ownD _ _ => true
  | _ => false
/-- what is wished where something is raised: over a base -/
class XR where
  ok : Hp → Prop
  mono : ∀ B B', Up B B' → ok B → ok B'
instance (priority := 10) xr0 : XR := ⟨fun _ => True, fun _ _ _ _ => trivial⟩
/-- the dict of the modules is watched: what is new lies elsewhere -/
def SysK (H : Hp) : Prop := ∃ o q es ep, H sysModules = some (.frz o (.ext q)) ∧ o.data = .dict es ep
theorem SysK.same {H H' : Hp} (h : SysK H) (e : Same H H') : SysK H' := by
  obtain ⟨o, q, es, ep, z, d⟩ := h
  exact ⟨o, q, es, ep, e.at_ _ _ z, d⟩
section
variable [XR]
structure Rel (K : PySem.W.Frag) (B H : Hp) (σ : St) (δ : List Slot) : Prop where
  same : Same B H
  x : XR.ok B ∧ SysK B
  tabs : LamX.Tabs LamT.T H
  len : σ.length = δ.length
  at_ : ∀ (i : Nat) s, δ[i]? = some s → SlotOk K B H (σ[i]?.join) s
  apart : ∀ (i j : Nat) s t (p : Addr), i ≠ j → δ[i]? = some s → δ[j]? = some t → isOwn s = true → isOwn t = true → σ[i]? = some (some (.ref p)) → σ[j]? ≠ some (some (.ref p))

section
variable {K : PySem.W.Frag} {B B' H H1 H2 H' : Hp} {σ : St} {δ : List Slot} {v : V} {r : Res}
theorem SlotOk.same {o : Option V} {s : Slot} (h : SlotOk K B H o s) (e : Same H H') : SlotOk K B H' o s := by
  cases s with
  | any => trivial
  | dat d =>
    obtain ⟨v, h1, h2⟩ := h
    exact ⟨v, h1, h2.to (per_same e)⟩
  | lst ds =>
    obtain ⟨p, vs, h1, h2, h3⟩ := h
    exact ⟨p, vs, h1, h2.per (per_same e), h3.to (per_same e)⟩
  | own ds =>
    obtain ⟨p, vs, h1, h2, h3, h4⟩ := h
    exact ⟨p, vs, h1, h2, e.at_ _ _ h3, h4.to (per_same e)⟩
  | bag =>
    obtain ⟨p, h1, h2⟩ := h
    exact ⟨p, h1, h2.per (per_same e)⟩
  | fn P => exact fun H2 e2 => h H2 ((per_same e).trans e2)
  | lstD t ds =>
    obtain ⟨p, ob, h1, h2, h3⟩ := h
    exact ⟨p, ob, h1, h2.per (per_same e), h3.per (per_same e)⟩
  | ownD t ds =>
    obtain ⟨p, ob, h1, h2, h3, h4⟩ := h
    exact ⟨p, ob, h1, h2, e.at_ _ _ h3 h4.free.2, h4.per (per_same e)⟩
theorem Rel.grow (h : Rel K B H σ δ) (e : Same H H') : Rel K B H' σ δ :=
  ⟨h.same.trans e, h.x, e.tabs h.tabs, h.len, fun i s hs => (h.at_ i s hs).same e, h.apart⟩
theorem ResOk.grow (h : ResOk K B H H1 v r) (e : Same H1 H2) : ResOk K B H H2 v r := by
  cases r with
  | dat d => exact Im.to h (per_same e)
  | bor ds =>
    obtain ⟨p, vs, h1, h2, h3⟩ := h
    exact ⟨p, vs, h1, h2.per (per_same e), h3.to (per_same e)⟩
  | len ds =>
    obtain ⟨p, vs, h1, h2, h3⟩ := h
    exact ⟨p, vs, h1, e.at_ _ _ h2, h3.to (per_same e)⟩
  | fresh ds =>
    obtain ⟨p, vs, h1, h2, h3, h4⟩ := h
    exact ⟨p, vs, h1, h2, e.at_ _ _ h3, h4.to (per_same e)⟩
  | bag =>
    obtain ⟨p, h1, h2⟩ := h
    exact ⟨p, h1, h2.per (per_same e)⟩
  | borD t ds =>
    obtain ⟨p, ob, h1, h2, h3⟩ := h
    exact ⟨p, ob, h1, h2.per (per_same e), h3.per (per_same e)⟩
  | lenD t ds =>
    obtain ⟨p, ob, h1, h2, h3⟩ := h
    exact ⟨p, ob, h1, e.at_ _ _ h2 h3.free.2, h3.per (per_same e)⟩
  | freshD t ds =>
    obtain ⟨p, ob, h1, h2, h3, h4⟩ := h
    exact ⟨p, ob, h1, h2, e.at_ _ _ h3 h4.free.2, h4.per (per_same e)⟩
theorem ResOk.from_ (h : ResOk K B H1 H2 v r) (e : Same H H1) : ResOk K B H H2 v r := by
  cases r with
  | fresh ds =>
    obtain ⟨p, vs, h1, h2, h3, h4⟩ := h
    exact ⟨p, vs, h1, e.free h2, h3, h4⟩
  | freshD t ds =>
    obtain ⟨p, ob, h1, h2, h3, h4⟩ := h
    exact ⟨p, ob, h1, e.free h2, h3, h4⟩
  | _ => exact h
/-- the items of a list -/
def Res.items : Res → Option (List PyData)
  | .dat (.list ds) => some ds
  | .bor ds => some ds
  | .len ds => some ds
  | .fresh ds => some ds
  | _ => none
/-- the data as it stands -/
def Res.data : Res → Option PyData
  | .dat d => some d
  | .bor ds => some (.list ds)
  | .len ds => some (.list ds)
  | .fresh ds => some (.list ds)
  | _ => none
/-- a list that may be written (or was just made) -/
def Res.mine : Res → Option (List PyData)
  | .len ds => some ds
  | .fresh ds => some ds
  | _ => none
theorem ResOk.list {ds : List PyData} (e : Same B H') (h : ResOk K B H H' v r) (hi : r.items = some ds) : ∃ p vs, v = .ref p ∧ SqL K H' p vs ∧ ImAll K H' vs ds := by
  cases r with
  | dat d =>
    cases d <;> cases hi
    cases h with
    | lst h1 h2 => exact ⟨_, _, rfl, h1.seq, h2⟩
  | bor es =>
    cases hi
    obtain ⟨p, vs, h1, h2, h3⟩ := h
    exact ⟨p, vs, h1, h2.seq e, h3⟩
  | len es =>
    cases hi
    obtain ⟨p, vs, h1, h2, h3⟩ := h
    exact ⟨p, vs, h1, SqL.of h2, h3⟩
  | fresh es =>
    cases hi
    obtain ⟨p, vs, h1, _, h2, h3⟩ := h
    exact ⟨p, vs, h1, SqL.of h2, h3⟩
  | _ => cases hi
theorem ResOk.listM {ds : List PyData} (h : ResOk K B H H' v r) (hi : r.mine = some ds) : ∃ p vs, v = .ref p ∧ H' p = some (.lst vs) ∧ ImAll K H' vs ds := by
  cases r with
  | dat d => cases hi
  | bor es => cases hi
  | len es =>
    cases hi
    exact h
  | fresh es =>
    cases hi
    obtain ⟨p, vs, h1, _, h2, h3⟩ := h
    exact ⟨p, vs, h1, h2, h3⟩
  | _ => cases hi
theorem ResOk.dp {d : PyData} (e : Same B H') (h : ResOk K B H H' v r) (hi : r.data = some d) (c : d.hasDict = false) : Dp K H' v d := by
  cases r with
  | dat d' =>
    cases hi
    exact Im.toDp h c
  | bor es =>
    cases hi
    obtain ⟨p, vs, rfl, h2, h3⟩ := h
    exact .lst (h2.seq e) (h3.toDp (by simpa only [PyData.hasDict] using c))
  | len es =>
    cases hi
    obtain ⟨p, vs, rfl, h2, h3⟩ := h
    exact .lst (SqL.of h2) (h3.toDp (by simpa only [PyData.hasDict] using c))
  | fresh es =>
    cases hi
    obtain ⟨p, vs, rfl, _, h2, h3⟩ := h
    exact .lst (SqL.of h2) (h3.toDp (by simpa only [PyData.hasDict] using c))
  | _ => cases hi

/-! ## the judgements over abstract slots -/
def EvC (K : PySem.W.Frag) (te : TE) (δ : List Slot) (k : Res → Prop) : Prop :=
  ∀ (B H : Hp) (σ : St), Rel K B H σ δ → ∀ Q : VK, (∀ v H' r, Same H H' → ResOk K B H H' v r → k r → Q v H') → te σ H Q
inductive ArgsOk (K : PySem.W.Frag) (B H H' : Hp) : List V → List Res → Prop
  | nil : ArgsOk K B H H' [] []
  | cons {v : V} {vs : List V} {r : Res} {rs : List Res} : ResOk K B H H' v r → ArgsOk K B H H' vs rs → ArgsOk K B H H' (v :: vs) (r :: rs)
theorem ArgsOk.from_ {vs : List V} {rs : List Res} (e : Same H H1) : ArgsOk K B H1 H2 vs rs → ArgsOk K B H H2 vs rs := fun h => by
  induction h with
  | nil => exact .nil
  | cons h1 _ ih => exact .cons (h1.from_ e) ih
theorem ArgsOk.length {vs : List V} {rs : List Res} (h : ArgsOk K B H H' vs rs) : vs.length = rs.length := by
  induction h with
  | nil => rfl
  | cons _ _ ih => simp [ih]
def EvA (K : PySem.W.Frag) (ta : TA) (δ : List Slot) (k : List Res → Prop) : Prop :=
  ∀ (B H : Hp) (σ : St), Rel K B H σ δ → ∀ Q : List V → Hp → Prop, (∀ vs H' rs, Same H H' → ArgsOk K B H H' vs rs → k rs → Q vs H') → ta σ H Q
def EvT (K : PySem.W.Frag) (tt : TT) (δ : List Slot) (k : Bool → Prop) : Prop :=
  ∀ (B H : Hp) (σ : St), Rel K B H σ δ → ∀ Q : Bool → Hp → Prop, (∀ b H', Same H H' → k b → Q b H') → tt σ H Q
def EvO (K : PySem.W.Frag) (to : TO) (δ : List Slot) (k : Option Int → Prop) : Prop :=
  ∀ (B H : Hp) (σ : St), Rel K B H σ δ → ∀ Q : Option Int → Hp → Prop, (∀ o H', Same H H' → k o → Q o H') → to σ H Q
structure AEnds where
  nx : List Slot → Prop
  rt : Res → Prop
  bk : List Slot → Prop := fun _ => False
  ct : List Slot → Prop := fun _ => False
/-- D is held by E, over the base B -/
structure Cn (K : PySem.W.Frag) (B : Hp) (D : AEnds) (E : Ends) : Prop where
  nx : ∀ σ H δ, Rel K B H σ δ → D.nx δ → E.nx σ H
  rt : ∀ v H r, Same B H → ResOk K B B H v r → D.rt r → E.rt v H
  bk : ∀ σ H δ, Rel K B H σ δ → D.bk δ → E.bk σ H
  ct : ∀ σ H δ, Rel K B H σ δ → D.ct δ → E.ct σ H
def SD (K : PySem.W.Frag) (ts : TS) (D : AEnds) (δ : List Slot) : Prop :=
  ∀ (B H : Hp) (σ : St), Rel K B H σ δ → ∀ E : Ends, Cn K B D E → ts E σ H
theorem EvC.imp {te : TE} {k k' : Res → Prop} (h : EvC K te δ k) (hk : ∀ r, k r → k' r) : EvC K te δ k' :=
  fun B H σ R Q q => h B H σ R Q fun v H' r e o kr => q v H' r e o (hk r kr)
theorem EvT.imp {te : TT} {k k' : Bool → Prop} (h : EvT K te δ k) (hk : ∀ r, k r → k' r) : EvT K te δ k' :=
  fun B H σ R Q q => h B H σ R Q fun b H' e kr => q b H' e (hk b kr)
end
end
/-! ## dicts over data -/
section
variable {κ β : Type} [DecidableEq κ]
def lookG (l : List (κ × β)) (k : κ) : Option β := (l.find? fun p => decide (p.1 = k)).map (·.2)
def putG (l : List (κ × β)) (k : κ) (v : β) : List (κ × β) := if (l.any fun p => decide (p.1 = k)) = true then l.map (fun p => if p.1 = k then (p.1, v) else p) else l ++ [(k, v)]
def dropG (l : List (κ × β)) (k : κ) : List (κ × β) := l.filter fun p => decide (p.1 ≠ k)
theorem lookG_nil {k : κ} : lookG ([] : List (κ × β)) k = none := rfl
theorem lookG_pos {p : κ × β} {r : List (κ × β)} {k : κ} (e : p.1 = k) : lookG (p :: r) k = some p.2 := by simp [lookG, List.find?_cons, e]
theorem lookG_neg {p : κ × β} {r : List (κ × β)} {k : κ} (e : ¬ p.1 = k) : lookG (p :: r) k = lookG r k := by simp [lookG, List.find?_cons, e]
theorem lookG_any (k : κ) : ∀ l : List (κ × β), (l.any fun p => decide (p.1 = k)) = (lookG l k).isSome
  | [] => rfl
  | p :: r => by
    rw [List.any_cons]
    by_cases e : p.1 = k
    · simp only [lookG_pos e, decide_eq_true e, Bool.true_or, Option.isSome_some]
    · rw [lookG_neg e, decide_eq_false e, Bool.false_or]; exact lookG_any k r
theorem lookG_mem {k : κ} {v : β} : ∀ {l : List (κ × β)}, lookG l k = some v → (k, v) ∈ l
  | [], h => by cases h
  | p :: r, h => by
    by_cases e : p.1 = k
    · rw [lookG_pos e] at h
      cases h
      rw [← e]
      exact List.mem_cons_self
    · rw [lookG_neg e] at h
      exact List.mem_cons_of_mem _ (lookG_mem h)
theorem lookG_some_iff {k : κ} : ∀ {l : List (κ × β)}, (lookG l k).isSome = true ↔ k ∈ l.map (·.1)
  | [] => by simp [lookG_nil]
  | p :: r => by
    by_cases e : p.1 = k
    · simp [lookG_pos e, e]
    · rw [lookG_neg e, lookG_some_iff, List.map_cons, List.mem_cons]
      constructor
      · exact .inr
      · rintro (h | h)
        · exact absurd h.symm e
        · exact h
theorem lookG_none_iff {k : κ} {l : List (κ × β)} : lookG l k = none ↔ k ∉ l.map (·.1) := by
  rw [← lookG_some_iff, Option.isSome_iff_ne_none]
  simp
theorem lookG_map (k j : κ) (y : β) : ∀ l : List (κ × β), lookG (l.map fun p => if p.1 = k then (p.1, y) else p) j = (lookG l j).map fun x => if j = k then y else x
  | [] => rfl
  | p :: r => by
    have ih := lookG_map k j y r
    rw [List.map_cons]
    by_cases h : p.1 = k
    · rw [if_pos h]
      by_cases e : p.1 = j
      · rw [lookG_pos (p := (p.1, y)) e, lookG_pos e, Option.map_some, if_pos (e.symm.trans h)]
      · rw [lookG_neg (p := (p.1, y)) e, lookG_neg e, ih]
    · rw [if_neg h]
      by_cases e : p.1 = j
      · rw [lookG_pos (p := p) e, lookG_pos e, Option.map_some, if_neg (fun z => h (e.trans z))]
      · rw [lookG_neg (p := p) e, lookG_neg e, ih]
theorem lookG_snoc (k j : κ) (y : β) : ∀ l : List (κ × β), lookG l k = none → lookG (l ++ [(k, y)]) j = if j = k then some y else lookG l j
  | [], _ => by
    by_cases e : k = j
    · rw [if_pos e.symm]; exact lookG_pos (p := (k, y)) e
    · rw [if_neg (fun z => e z.symm)]; exact lookG_neg (p := (k, y)) e
  | p :: r, hn => by
    rw [List.cons_append]
    have hk : ¬ p.1 = k := fun z => by rw [lookG_pos z] at hn; cases hn
    rw [lookG_neg hk] at hn
    have ih := lookG_snoc k j y r hn
    by_cases e : p.1 = j
    · rw [lookG_pos e, lookG_pos e, if_neg (fun z => hk (e.trans z))]
    · rw [lookG_neg e, lookG_neg e, ih]
theorem lookG_put (l : List (κ × β)) (k j : κ) (y : β) : lookG (putG l k y) j = if j = k then some y else lookG l j := by
  unfold putG
  by_cases a : (l.any fun p => decide (p.1 = k)) = true
  · rw [if_pos a, lookG_map]
    rw [lookG_any] at a
    by_cases e : j = k
    · obtain ⟨x, hx⟩ := Option.isSome_iff_exists.mp a
      rw [if_pos e, e, hx, Option.map_some, if_pos rfl]
    · rw [if_neg e]
      cases lookG l j with
      | none => rfl
      | some x => rw [Option.map_some, if_neg e]
  · rw [if_neg a]
    refine lookG_snoc k j y l ?_
    rw [lookG_any] at a
    cases q : lookG l k with
    | none => rfl
    | some x => rw [q] at a; exact (a rfl).elim
theorem putG_new {l : List (κ × β)} {k : κ} (v : β) (h : lookG l k = none) : putG l k v = l ++ [(k, v)] := by
  unfold putG
  rw [lookG_any, h]
  exact if_neg (by simp)
theorem length_putG (l : List (κ × β)) (k : κ) (v : β) : (putG l k v).length ≤ l.length + 1 := by
  unfold putG
  split
  · rw [List.length_map]; omega
  · rw [List.length_append, List.length_cons, List.length_nil]; omega
theorem keys_putG (l : List (κ × β)) (k : κ) (v : β) : (putG l k v).map (·.1) = if k ∈ l.map (·.1) then l.map (·.1) else l.map (·.1) ++ [k] := by
  unfold putG
  rw [lookG_any]
  by_cases h : k ∈ l.map (·.1)
  · rw [if_pos h, if_pos (lookG_some_iff.mpr h), List.map_map]
    refine List.map_congr_left fun p _ => ?_
    show (if p.1 = k then (p.1, v) else p).1 = p.1
    split <;> rfl
  · rw [if_neg h, if_neg fun z => h (lookG_some_iff.mp z), List.map_append]
    rfl
theorem nodup_putG {l : List (κ × β)} (k : κ) (v : β) (h : (l.map (·.1)).Nodup) : ((putG l k v).map (·.1)).Nodup := by
  rw [keys_putG]
  split
  · exact h
  · rename_i hn
    exact List.nodup_append.mpr ⟨h, List.nodup_cons.mpr ⟨by simp, List.nodup_nil⟩, fun a ha b hb => by
      rw [List.mem_singleton.mp hb]
      exact fun z => hn (z ▸ ha)⟩
theorem mem_putG {l : List (κ × β)} {k : κ} {v : β} {p : κ × β} (h : p ∈ putG l k v) : p ∈ l ∨ p = (k, v) := by
  unfold putG at h
  split at h
  · obtain ⟨q, hq, e⟩ := List.mem_map.mp h
    split at e
    · rename_i ek
      right
      rw [← e, ek]
    · exact .inl (e ▸ hq)
  · rcases List.mem_append.mp h with h | h
    · exact .inl h
    · exact .inr (List.mem_singleton.mp h)
end
theorem kD_inj {a b : Key} (e : kD a = kD b) : a = b := by
  cases a <;> cases b <;> simp only [kD, PyData.int.injEq, PyData.str.injEq, reduceCtorEq] at e <;> rw [e]
theorem kDs_inj : ∀ {a b : List Key}, a.map kD = b.map kD → a = b
  | [], [], _ => rfl
  | [], _ :: _, e => by simp at e
  | _ :: _, [], e => by simp at e
  | x :: xs, y :: ys, e => by
    rw [List.map_cons, List.map_cons] at e
    injection e with e1 e2
    rw [kD_inj e1, kDs_inj e2]
theorem tD_inj {a b : List Key} (e : tD a = tD b) : a = b := by
  unfold tD at e
  exact kDs_inj (PyData.tuple.inj e)
theorem kvD_inj : ∀ {a b : List (Key × PyData)}, kvD a = kvD b → a = b
  | [], [], _ => rfl
  | [], _ :: _, e => by simp [kvD] at e
  | _ :: _, [], e => by simp [kvD] at e
  | (x, d) :: xs, (y, f) :: ys, e => by
    unfold kvD at e
    rw [List.map_cons, List.map_cons] at e
    injection e with e1 e2
    injection e1 with e3 e4
    have e5 : x = y := kD_inj e3
    have e6 : d = f := e4
    rw [e5, e6, kvD_inj (a := xs) (b := ys) e2]
theorem tvD_inj : ∀ {a b : List (List Key × PyData)}, tvD a = tvD b → a = b
  | [], [], _ => rfl
  | [], _ :: _, e => by simp [tvD] at e
  | _ :: _, [], e => by simp [tvD] at e
  | (x, d) :: xs, (y, f) :: ys, e => by
    unfold tvD at e
    rw [List.map_cons, List.map_cons] at e
    injection e with e1 e2
    injection e1 with e3 e4
    have e5 : x = y := tD_inj e3
    have e6 : d = f := e4
    rw [e5, e6, tvD_inj (a := xs) (b := ys) e2]
section
variable {K : PySem.W.Frag} {H : Hp}
theorem im_kD {v : V} {k : Key} (h : Im K H v (kD k)) : v = kV k := by
  cases k with
  | inl i => cases h; rfl
  | inr x => cases h; rfl
theorem im_kDr (k : Key) : Im K H (kV k) (kD k) := by
  cases k with
  | inl i => exact .int i
  | inr x => exact .str x
theorem im_kDs : ∀ {vs : List V} {ks : List Key}, ImAll K H vs (ks.map kD) → vs = ks.map kV
  | [], [], _ => rfl
  | _ :: _, [], h => by cases h
  | [], _ :: _, h => by cases h
  | v :: vs, k :: ks, .cons h1 h2 => by
    rw [im_kD h1, im_kDs h2]
    rfl
theorem im_kDsr : ∀ (ks : List Key), ImAll K H (ks.map kV) (ks.map kD)
  | [] => .nil
  | k :: ks => .cons (im_kDr k) (im_kDsr ks)
theorem im_tD (hst : LamT.st = false) {v : V} {ks : List Key} (hex : ¬ exV (ks.map kV)) (h : Im K H v (tD ks)) : ∃ b, v = .ref b ∧ H b = some (.tup (ks.map kV)) := by
  unfold tD at h
  cases h with
  | tup h1 h2 h3 =>
    rw [im_kDs h2] at h3
    rcases h3 with (h3 | h3) | h3
    · rw [hst] at h3
      cases h3
    · exact absurd h3 hex
    · exact ⟨_, rfl, h3⟩
theorem im_tS {v : V} {ks : List Key} (h : Im K H v (tD ks)) : ∃ b, v = .ref b ∧ SqT K H b (ks.map kV) := by
  unfold tD at h
  cases h with
  | tup h1 h2 h3 =>
    rw [im_kDs h2] at h1
    exact ⟨_, rfl, h1⟩
variable {κ : Type} [DecidableEq κ]
theorem KP.val {kvs : List (κ × V)} {kds : List (κ × PyData)} (h : KP K H kvs kds) (k : κ) : (lookG kds k = none ∧ valV kvs k = none) ∨ ∃ v d, lookG kds k = some d ∧ valV kvs k = some v ∧ Im K H v d := by
  induction h with
  | nil => exact .inl ⟨rfl, rfl⟩
  | @cons p q ps qs h t ih =>
    obtain ⟨h1, h2⟩ := h
    by_cases e : p.1 = k
    · exact .inr ⟨_, _, lookG_pos (h1.symm.trans e), valV_pos e, h2⟩
    · rw [valV_neg e, lookG_neg fun z => e (h1.trans z)]
      exact ih
theorem KP.len {kvs : List (κ × V)} {kds : List (κ × PyData)} (h : KP K H kvs kds) : kvs.length = kds.length := Paired.length h
theorem KP.repl {kvs : List (κ × V)} {kds : List (κ × PyData)} (h : KP K H kvs kds) (k : κ) {v : V} {d : PyData} (im : Im K H v d) : KP K H (kvs.map fun p => if p.1 = k then (p.1, v) else p) (kds.map fun p => if p.1 = k then (p.1, d) else p) := by
  induction h with
  | nil => exact .nil
  | @cons p q ps qs h t ih =>
    rw [List.map_cons, List.map_cons]
    refine .cons ?_ ih
    obtain ⟨h1, h2⟩ := h
    by_cases e : p.1 = k
    · rw [if_pos e, if_pos (h1.symm.trans e)]; exact ⟨h1, im⟩
    · rw [if_neg e, if_neg fun z => e (h1.trans z)]; exact ⟨h1, h2⟩
theorem KP.put {kvs : List (κ × V)} {kds : List (κ × PyData)} (h : KP K H kvs kds) (k : κ) {v : V} {d : PyData} (im : Im K H v d) : KP K H (putK kvs k v) (putG kds k d) := by
  have e : (kvs.any fun p => decide (p.1 = k)) = (kds.any fun p => decide (p.1 = k)) := by
    rw [valV_any, lookG_any]
    rcases h.val k with ⟨h1, h2⟩ | ⟨_, _, h1, h2, _⟩ <;> rw [h1, h2] <;> rfl
  unfold putK putG
  rw [e]
  split
  · exact h.repl k im
  · exact Paired.snoc h ⟨rfl, im⟩
theorem KP.drop {kvs : List (κ × V)} {kds : List (κ × PyData)} (h : KP K H kvs kds) (k : κ) : KP K H (dropK kvs k) (dropG kds k) := by
  unfold dropK dropG
  induction h with
  | nil => exact .nil
  | @cons p q ps qs h t ih =>
    obtain ⟨h1, h2⟩ := h
    rw [List.filter_cons, List.filter_cons]
    by_cases e : p.1 = k
    · rw [if_neg (show ¬ decide (p.1 ≠ k) = true by simp [e]), if_neg (show ¬ decide (q.1 ≠ k) = true by simp [h1.symm.trans e])]
      exact ih
    · rw [if_pos (show decide (p.1 ≠ k) = true by simp [e]), if_pos (show decide (q.1 ≠ k) = true by simpa using fun z => e (h1.trans z))]
      exact .cons ⟨h1, h2⟩ ih
end
section
variable {K : PySem.W.Frag} {H : Hp} {o : HO}
theorem DicIs.invk {kds : List (Key × PyData)} (h : DicIs K H false o (kvD kds)) : ∃ kvs, o = .dK kvs ∧ KP K H kvs kds := by
  generalize hd : kvD kds = ds at h
  cases h with
  | k h =>
    rw [kvD_inj hd]
    exact ⟨_, rfl, h⟩
theorem DicIs.invt {kds : List (List Key × PyData)} (h : DicIs K H true o (tvD kds)) : ∃ kvs, o = .dT kvs ∧ KP K H kvs kds := by
  generalize hd : tvD kds = ds at h
  cases h with
  | t h =>
    rw [tvD_inj hd]
    exact ⟨_, rfl, h⟩
/-- what stands at a key -/
inductive KeyR : Bool → List (PyData × PyData) → PyData → Option PyData → Prop
  | k (kds : List (Key × PyData)) (k : Key) : KeyR false (kvD kds) (kD k) (lookG kds k)
  | t (kds : List (List Key × PyData)) (ks : List Key) : KeyR true (tvD kds) (tD ks) (lookG kds ks)
/-- what the dict at a holds at the key y, a tuple of any kind -/
def DGetA (K : PySem.W.Frag) (H : Hp) (a : Addr) (y : V) (r : Option V) : Prop :=
  (∃ kvs k, Rd H a (.dK kvs) ∧ y = kV k ∧ r = valV kvs k) ∨ ∃ kvs k b, Rd H a (.dT kvs) ∧ y = .ref b ∧ SqT K H b (k.map kV) ∧ r = valV kvs k
theorem dget_of {t : Bool} {ds : List (PyData × PyData)} {p : Addr} {v : V} {key : PyData} {r : Option PyData} (d : DicIs K H t o ds) (rd : Rd H p o) (im : Im K H v key) (kr : KeyR t ds key r) :
    (r = none ∧ DGetA K H p v none) ∨ ∃ w x, r = some x ∧ DGetA K H p v (some w) ∧ Im K H w x := by
  cases kr with
  | k kds k =>
    obtain ⟨kvs, rfl, kp⟩ := d.invk
    have hv := im_kD im
    subst hv
    rcases kp.val k with ⟨h1, h2⟩ | ⟨w, x, h1, h2, h3⟩
    · exact .inl ⟨h1, .inl ⟨kvs, k, rd, rfl, h2.symm⟩⟩
    · exact .inr ⟨w, x, h1, .inl ⟨kvs, k, rd, rfl, h2.symm⟩, h3⟩
  | t kds ks =>
    obtain ⟨kvs, rfl, kp⟩ := d.invt
    obtain ⟨b, rfl, hb⟩ := im_tS im
    rcases kp.val ks with ⟨h1, h2⟩ | ⟨w, x, h1, h2, h3⟩
    · exact .inl ⟨h1, .inr ⟨kvs, ks, b, rd, rfl, hb, h2.symm⟩⟩
    · exact .inr ⟨w, x, h1, .inr ⟨kvs, ks, b, rd, rfl, hb, h2.symm⟩, h3⟩
theorem dget_ofK {ds : List (PyData × PyData)} {p : Addr} {v : V} {key : PyData} {r : Option PyData} (d : DicIs K H false o ds) (rd : Rd H p o) (im : Im K H v key) (kr : KeyR false ds key r) :
    (r = none ∧ DGet H p v none) ∨ ∃ w x, r = some x ∧ DGet H p v (some w) ∧ Im K H w x := by
  cases kr with
  | k kds k =>
    obtain ⟨kvs, rfl, kp⟩ := d.invk
    have hv := im_kD im
    subst hv
    rcases kp.val k with ⟨h1, h2⟩ | ⟨w, x, h1, h2, h3⟩
    · exact .inl ⟨h1, .inl ⟨kvs, k, rd, rfl, h2.symm⟩⟩
    · exact .inr ⟨w, x, h1, .inl ⟨kvs, k, rd, rfl, h2.symm⟩, h3⟩
/-- what is behind a store -/
inductive PutR : Bool → List (PyData × PyData) → PyData → PyData → List (PyData × PyData) → Prop
  | k (kds : List (Key × PyData)) (k : Key) (d : PyData) : kds.length < 1000000 → PutR false (kvD kds) (kD k) d (kvD (putG kds k d))
  | t (kds : List (List Key × PyData)) (ks : List Key) (d : PyData) : LamT.st = false → ¬ exV (ks.map kV) → kds.length < 1000000 → PutR true (tvD kds) (tD ks) d (tvD (putG kds ks d))
theorem dput_of {t : Bool} {ds es : List (PyData × PyData)} {p : Addr} {v w : V} {key d : PyData} (di : DicIs K H t o ds) (h : H p = some o) (im : Im K H v key) (iw : Im K H w d) (pr : PutR t ds key d es) :
    ∃ o', DPut H p v w (upd H p o') ∧ DicIs K H t o' es := by
  cases pr with
  | k kds k d hz =>
    obtain ⟨kvs, rfl, kp⟩ := di.invk
    have hv := im_kD im
    subst hv
    exact ⟨_, .inl ⟨kvs, k, h, rfl, by rw [kp.len]; exact Nat.lt_trans hz (by decide), rfl⟩, .k (kp.put k iw)⟩
  | t kds ks d hst hex hz =>
    obtain ⟨kvs, rfl, kp⟩ := di.invt
    obtain ⟨b, rfl, hb⟩ := im_tD hst hex im
    exact ⟨_, .inr ⟨kvs, ks, b, h, rfl, hb, by rw [kp.len]; exact Nat.lt_trans hz (by decide), rfl⟩, .t (kp.put ks iw)⟩
theorem DicIs.len {t : Bool} {ds : List (PyData × PyData)} (d : DicIs K H t o ds) : (∃ kvs, o = .dK kvs ∧ kvs.length = ds.length) ∨ ∃ kvs, o = .dT kvs ∧ kvs.length = ds.length := by
  cases d with
  | k h => exact .inl ⟨_, rfl, by rw [h.len]; simp [kvD]⟩
  | t h => exact .inr ⟨_, rfl, by rw [h.len]; simp [tvD]⟩
/-- a dict as it lies -/
def Res.dic : Res → Option (Bool × List (PyData × PyData))
  | .dat (.dict ds) => some (false, ds)
  | .borD t ds => some (t, ds)
  | .lenD t ds => some (t, ds)
  | .freshD t ds => some (t, ds)
  | _ => none
theorem ResOk.dicR {B H' H0 : Hp} {v : V} {r : Res} {t : Bool} {ds : List (PyData × PyData)} (e : Same B H') (h : ResOk K B H0 H' v r) (hi : r.dic = some (t, ds)) : ∃ p ob, v = .ref p ∧ Rd H' p ob ∧ DicIs K H' t ob ds := by
  cases r with
  | dat d =>
    cases d with
    | dict es =>
      cases hi
      cases h with
      | dic kds h1 h2 h3 =>
        subst h3
        exact ⟨_, _, rfl, .inr h1, .k h2.kp⟩
    | _ => cases hi
  | borD t ds =>
    cases hi
    obtain ⟨p, ob, h1, h2, h3⟩ := h
    exact ⟨p, ob, h1, h2.rd e h3.free.2, h3⟩
  | lenD t ds =>
    cases hi
    obtain ⟨p, ob, h1, h2, h3⟩ := h
    exact ⟨p, ob, h1, .inl h2, h3⟩
  | freshD t ds =>
    cases hi
    obtain ⟨p, ob, h1, _, h2, h3⟩ := h
    exact ⟨p, ob, h1, .inl h2, h3⟩
  | _ => cases hi
end
end Dl

/-! own layer, expressions -/
namespace Dl
variable [LamT] [XR]
open PySem PySem.Spec L2

section
variable {K : PySem.W.Frag} {B H H' : Hp} {i : Int} {b : Bool} {x : Str} {p : Addr} {vs : List V} {ds : List PyData}
theorem rInt : ResOk K B H H' (.int i) (.dat (.int i)) := Im.int i
theorem rBl : ResOk K B H H' (.bl b) (.dat (.bool b)) := Im.bl b
theorem rStr : ResOk K B H H' (.str x) (.dat (.str x)) := Im.str x
theorem rNon : ResOk K B H H' .non (.dat .none) := Im.non
theorem rTup (h : SqT K H' p vs) (a : ImAll K H' vs ds) (tr : Trk H' p vs) : ResOk K B H H' (.ref p) (.dat (.tuple ds)) := Im.tup h a tr
theorem rLst (h : FzL H' p vs) (a : ImAll K H' vs ds) : ResOk K B H H' (.ref p) (.dat (.list ds)) := Im.lst h a
theorem rIm {v : V} {d : PyData} (h : Im K H' v d) : ResOk K B H H' v (.dat d) := h
theorem rBor (h : SqB K B H' p vs) (a : ImAll K H' vs ds) : ResOk K B H H' (.ref p) (.bor ds) := ⟨p, vs, rfl, h, a⟩
theorem rLen (h : H' p = some (.lst vs)) (a : ImAll K H' vs ds) : ResOk K B H H' (.ref p) (.len ds) := ⟨p, vs, rfl, h, a⟩
theorem rBorD {t : Bool} {o : HO} {es : List (PyData × PyData)} (h : RdB B H' p o) (d : DicIs K H' t o es) : ResOk K B H H' (.ref p) (.borD t es) := ⟨p, o, rfl, h, d⟩
theorem rLenD {t : Bool} {o : HO} {es : List (PyData × PyData)} (h : H' p = some o) (d : DicIs K H' t o es) : ResOk K B H H' (.ref p) (.lenD t es) := ⟨p, o, rfl, h, d⟩
theorem rFreshD {t : Bool} {o : HO} {es : List (PyData × PyData)} (h0 : H p = none) (h : H' p = some o) (d : DicIs K H' t o es) : ResOk K B H H' (.ref p) (.freshD t es) := ⟨p, o, rfl, h0, h, d⟩
theorem rBag (h : Bag H' p) : ResOk K B H H' (.ref p) .bag := ⟨p, rfl, h⟩
theorem rTupN {H1 : Hp} (h : H1 p = none) (a : ImAll K H1 vs ds) : ResOk K B H (upd H1 p (.tup vs)) (.ref p) (.dat (.tuple ds)) := Im.tup (SqT.of upd_same) (a.to (per_same (same_new h))) (.inr upd_same)
theorem rFreshN {H1 : Hp} (e : Same H H1) (h : H1 p = none) (a : ImAll K H1 vs ds) : ResOk K B H (upd H1 p (.lst vs)) (.ref p) (.fresh ds) := ⟨p, vs, rfl, e.free h, upd_same, a.to (per_same (same_new h))⟩
theorem rFresh (h : H p = none) (h' : H' p = some (.lst vs)) (a : ImAll K H' vs ds) : ResOk K B H H' (.ref p) (.fresh ds) := ⟨p, vs, rfl, h, h', a⟩
end
section
variable {K : PySem.W.Frag} {δ : List Slot} {k : Res → Prop} {ta tb te : TE} {r : R2}

/-! ## operators, by results -/
def OpOk (K : PySem.W.Frag) (r : R2) (P : Res → Res → (Res → Prop) → Prop) : Prop :=
  ∀ (B H H1 : Hp) (x y : V) (rx ry : Res) (k : Res → Prop) (Q : VK), Same B H → Same H H1 → ResOk K B H H1 x rx → ResOk K B H H1 y ry → P rx ry k →
    (∀ z H2 rz, Same H1 H2 → ResOk K B H H2 z rz → k rz → Q z H2) → r x y H1 Q
theorem ec_op {P : Res → Res → (Res → Prop) → Prop} (h : OpOk K r P) (g : EvC K ta δ fun x => EvC K tb δ fun y => P x y k) : EvC K (tOp r ta tb) δ k := by
  intro B H σ R Q q
  refine g B H σ R _ fun x H1 rx e1 o1 g1 => ?_
  refine g1 B H1 σ (R.grow e1) _ fun y H2 ry e2 o2 p => ?_
  exact h B H H2 x y rx ry k Q R.same (e1.trans e2) (o1.grow e2) (o2.from_ e1) p fun z H3 rz e3 o3 kz => q z H3 rz ((e1.trans e2).trans e3) o3 kz

def slotRes : Slot → Option Res
  | .any => none
  | .dat d => some (.dat d)
  | .lst ds => some (.bor ds)
  | .own ds => some (.len ds)
  | .bag => some .bag
  | .fn _ => none
  | .lstD t ds => some (.borD t ds)
  | .ownD t ds => some (.lenD t ds)
theorem ec_var {i : Nat} {s : Slot} {x : Res} (h : δ[i]? = some s) (hs : slotRes s = some x) (q : k x) : EvC K (tVar i) δ k := by
  intro B H σ R Q g
  have hat := R.at_ i s h
  have look : ∀ v, σ[i]?.join = some v → σ[i]? = some (some v) := fun v e => by
    cases h1 : σ[i]? with
    | none => rw [h1] at e; cases e
    | some o => rw [h1] at e; exact congrArg some e
  cases s with
  | any => cases hs
  | dat d =>
    cases hs
    obtain ⟨v, h1, h2⟩ := hat
    exact ⟨v, look _ h1, g v H _ (Same.refl H) (rIm h2) q⟩
  | lst ds =>
    cases hs
    obtain ⟨p, vs, h1, h2⟩ := hat
    exact ⟨_, look _ h1, g _ H _ (Same.refl H) (rBor h2.1 h2.2) q⟩
  | own ds =>
    cases hs
    obtain ⟨p, vs, h1, _, h2⟩ := hat
    exact ⟨_, look _ h1, g _ H _ (Same.refl H) (rLen h2.1 h2.2) q⟩
  | bag =>
    cases hs
    obtain ⟨p, h1, h2⟩ := hat
    exact ⟨_, look _ h1, g _ H _ (Same.refl H) (rBag h2) q⟩
  | fn P => cases hs
  | lstD t ds =>
    cases hs
    obtain ⟨p, ob, h1, h2⟩ := hat
    exact ⟨_, look _ h1, g _ H _ (Same.refl H) (rBorD h2.1 h2.2) q⟩
  | ownD t ds =>
    cases hs
    obtain ⟨p, ob, h1, _, h2⟩ := hat
    exact ⟨_, look _ h1, g _ H _ (Same.refl H) (rLenD h2.1 h2.2) q⟩
theorem ec_c {v : V} {d : PyData} (hv : ∀ H, Im K H v d) (q : k (.dat d)) : EvC K (tC v) δ k := fun B H σ R Q g => g v H _ (Same.refl H) (rIm (hv H)) q
theorem ec_int {i : Int} (q : k (.dat (.int i))) : EvC K (tC (.int i)) δ k := ec_c (fun _ => .int i) q
theorem ec_bl {b : Bool} (q : k (.dat (.bool b))) : EvC K (tC (.bl b)) δ k := ec_c (fun _ => .bl b) q
theorem ec_non (q : k (.dat .none)) : EvC K (tC .non) δ k := ec_c (fun _ => .non) q
theorem ec_str {x : Str} (q : k (.dat (.str x))) : EvC K (tC (.str x)) δ k := ec_c (fun _ => .str x) q

/-! ### + -/
def rStrCat : R2 := fun x y H Q => ∃ i j, x = .str i ∧ y = .str j ∧ i.length + j.length ≤ sizeLine ∧ Q (.str (i ++ j)) H
def rAddI : R2 := rI0 fun i j => .int (i + j)
def rAdd (K : PySem.W.Frag) : R2 := fun x y H Q => rAddI x y H Q ∨ (rCat x y H Q ∨ (rCatA K x y H Q ∨ rStrCat x y H Q))
theorem oAdd {X : Cx} : OpR X (binaryOp .Add) (rAdd X.K) := .or op_add (.or op_cat (.or op_catA op_add_str))
inductive AddP : Res → Res → (Res → Prop) → Prop
  | int {i j : Int} {k : Res → Prop} : k (.dat (.int (i + j))) → AddP (.dat (.int i)) (.dat (.int j)) k
  | lst {x y : Res} {ds es : List PyData} {k : Res → Prop} : x.mine = some ds → y.mine = some es → ds.length + es.length ≤ sizeLine → k (.fresh (ds ++ es)) → AddP x y k
  | tup {ds es : List PyData} {k : Res → Prop} : ds.length + es.length ≤ sizeLine → k (.dat (.tuple (ds ++ es))) → AddP (.dat (.tuple ds)) (.dat (.tuple es)) k
  | str {x y : Str} {k : Res → Prop} : x.length + y.length ≤ sizeLine → k (.dat (.str (x ++ y))) → AddP (.dat (.str x)) (.dat (.str y)) k
theorem opAdd : OpOk K (rAdd K) AddP := by
  intro B H H1 x y rx ry k Q e0 e1 ox oy p q
  cases p with
  | int g =>
    cases ox; cases oy
    exact .inl ⟨_, _, rfl, rfl, q _ _ _ (Same.refl _) rInt g⟩
  | lst hx hy hl g =>
    obtain ⟨a, xs, rfl, ha, ia⟩ := ox.listM hx
    obtain ⟨b, ys, rfl, hb, ib⟩ := oy.listM hy
    refine .inr (.inl ⟨a, b, xs, ys, rfl, rfl, ha, hb, by rw [ia.length, ib.length]; exact hl, fun p hp => ?_⟩)
    exact q _ _ _ (same_new hp) (rFreshN e1 hp (ia.append ib)) g
  | tup hl g =>
    cases ox with
    | tup sx ix tx =>
      cases oy with
      | tup sy iy ty =>
        refine .inr (.inr (.inl ⟨_, _, _, _, rfl, rfl, sx, sy, by rw [ix.length, iy.length]; exact hl, fun z => ?_, fun _ z => ?_, fun _ _ p hp => ?_⟩))
        · subst z
          cases ix
          exact q _ _ _ (Same.refl _) (rTup sy iy ty) g
        · subst z
          cases iy
          rw [List.append_nil] at g
          exact q _ _ _ (Same.refl _) (rTup sx ix tx) g
        · exact q _ _ _ (same_new hp) (rTupN hp (ix.append iy)) g
  | str hl g =>
    cases ox; cases oy
    exact .inr (.inr (.inr ⟨_, _, rfl, rfl, hl, q _ _ _ (Same.refl _) rStr g⟩))

/-! ### ints alone -/
/-- two ints in, data out -/
inductive IntP (C : Int → Int → Prop) (g : Int → Int → PyData) : Res → Res → (Res → Prop) → Prop
  | mk {i j : Int} {k : Res → Prop} : C i j → k (.dat (g i j)) → IntP C g (.dat (.int i)) (.dat (.int j)) k
theorem opI {C : Int → Int → Prop} {f : Int → Int → V} {g : Int → Int → PyData} (h : ∀ H i j, Im K H (f i j) (g i j)) : OpOk K (rI C f) (IntP C g) := by
  intro B H H1 x y rx ry k Q e0 e1 ox oy p q
  cases p with
  | mk c g =>
    cases ox; cases oy
    exact ⟨_, _, rfl, rfl, c, q _ _ _ (Same.refl _) (rIm (h _ _ _)) g⟩
theorem opI0 {f : Int → Int → V} {g : Int → Int → PyData} (h : ∀ H i j, Im K H (f i j) (g i j)) : OpOk K (rI0 f) (IntP (fun _ _ => True) g) := by
  intro B H H1 x y rx ry k Q e0 e1 ox oy p q
  cases p with
  | mk c g =>
    cases ox; cases oy
    exact ⟨_, _, rfl, rfl, q _ _ _ (Same.refl _) (rIm (h _ _ _)) g⟩
def rSub : R2 := rI0 fun i j => .int (i - j)
def rFdv : R2 := rI CDivW fun i j => .int (i / j)
def rMod : R2 := rI (fun _ j => 0 < j) fun i j => .int (i % j)
def rPow : R2 := rI CPow fun i j => .int (i ^ j.toNat)
theorem oSub {X : Cx} : OpR X (binaryOp .Sub) rSub := op_sub
theorem oFdv {X : Cx} : OpR X (binaryOp .FloorDiv) rFdv := op_fdivW
theorem oMod {X : Cx} : OpR X (binaryOp .Mod) rMod := op_mod
theorem oPow {X : Cx} : OpR X (binaryOp .Pow) rPow := op_pow
theorem opSub : OpOk K rSub (IntP (fun _ _ => True) fun i j => .int (i - j)) := opI0 fun _ _ _ => .int _
theorem opFdv : OpOk K rFdv (IntP CDivW fun i j => .int (i / j)) := opI fun _ _ _ => .int _
theorem opMod : OpOk K rMod (IntP (fun _ j => 0 < j) fun i j => .int (i % j)) := opI fun _ _ _ => .int _
theorem opPow : OpOk K rPow (IntP CPow fun i j => .int (i ^ j.toNat)) := opI fun _ _ _ => .int _
theorem sub_i {i j : Int} (g : k (.dat (.int (i - j)))) : IntP (fun _ _ => True) (fun i j => .int (i - j)) (.dat (.int i)) (.dat (.int j)) k := .mk trivial g
theorem fdv_i {i j : Int} (c : CDivW i j) (g : k (.dat (.int (i / j)))) : IntP CDivW (fun i j => .int (i / j)) (.dat (.int i)) (.dat (.int j)) k := .mk c g
theorem mod_i {i j : Int} (c : 0 < j) (g : k (.dat (.int (i % j)))) : IntP (fun _ j => 0 < j) (fun i j => .int (i % j)) (.dat (.int i)) (.dat (.int j)) k := .mk c g
theorem pow_i {i j : Int} (c : CPow i j) (g : k (.dat (.int (i ^ j.toNat)))) : IntP CPow (fun i j => .int (i ^ j.toNat)) (.dat (.int i)) (.dat (.int j)) k := .mk c g

/-! ### * -/
def rMulI : R2 := rI CMulW fun i j => .int (i * j)
def rMul (K : PySem.W.Frag) : R2 := fun x y H Q => rMulI x y H Q ∨ (rRep x y H Q ∨ rRepT K x y H Q)
theorem oMul {X : Cx} : OpR X (binaryOp .Mult) (rMul X.K) := .or op_mulW (.or op_rep op_repT)
inductive MulP : Res → Res → (Res → Prop) → Prop
  | int {i j : Int} {k : Res → Prop} : CMulW i j → k (.dat (.int (i * j))) → MulP (.dat (.int i)) (.dat (.int j)) k
  | lst {x : Res} {ds : List PyData} {n : Int} {k : Res → Prop} : x.mine = some ds → -(2 ^ 63) ≤ n → n < 2 ^ 63 → ds.length * n.toNat ≤ sizeLine → k (.fresh (List.replicate n.toNat ds).flatten) → MulP x (.dat (.int n)) k
  | tup {ds : List PyData} {n : Int} {k : Res → Prop} : ds ≠ [] → 2 ≤ n → n ≤ 1000 → ds.length ≤ 1000 → k (.dat (.tuple (List.replicate n.toNat ds).flatten)) → MulP (.dat (.tuple ds)) (.dat (.int n)) k
theorem opMul : OpOk K (rMul K) MulP := by
  intro B H H1 x y rx ry k Q e0 e1 ox oy p q
  cases p with
  | int c g =>
    cases ox; cases oy
    exact .inl ⟨_, _, rfl, rfl, c, q _ _ _ (Same.refl _) rInt g⟩
  | lst hx h1 h2 hl g =>
    obtain ⟨a, xs, rfl, ha, ia⟩ := ox.listM hx
    cases oy
    refine .inr (.inl ⟨a, _, xs, rfl, rfl, ha, h1, h2, by rw [ia.length]; exact hl, fun p hp => ?_⟩)
    exact q _ _ _ (same_new hp) (rFreshN e1 hp (ia.repl _)) g
  | tup hn h1 h2 hl g =>
    cases ox with
    | tup sx ix =>
      cases oy
      refine .inr (.inr ⟨_, _, _, rfl, rfl, sx, fun z => hn ?_, h1, h2, by rw [ix.length]; exact hl, fun p hp => ?_⟩)
      · subst z
        cases ix
        rfl
      · exact q _ _ _ (same_new hp) (rTupN hp (ix.repl _)) g

/-! ### comparisons -/
theorem oEq {X : Cx} (hu : X.A.units + 64 < cLine) : OpR X (compareOp .Eq) (rEqD X.K) := op_eqD hu
theorem oNe {X : Cx} (hu : X.A.units + 64 < cLine) : OpR X (compareOp .NotEq) (rNeD X.K) := op_neD hu
inductive EqP : Res → Res → (Res → Prop) → Prop
  | int {i j : Int} {k : Res → Prop} : k (.dat (.bool (decide (i = j)))) → EqP (.dat (.int i)) (.dat (.int j)) k
  | gen {x y : Res} {d e : PyData} {k : Res → Prop} : x.data = some d → y.data = some e → SeqAt.shaped d = true → SeqAt.shaped e = true → k (.dat (.bool (PyData.eqv d e))) → EqP x y k
theorem eqv_int (i j : Int) : PyData.eqv (.int i) (.int j) = decide (i = j) := by simp only [PyData.eqv]; rfl
theorem opEq : OpOk K (rEqD K) EqP := by
  intro B H H1 x y rx ry k Q e0 e1 ox oy p q
  cases p with
  | int g =>
    refine ⟨_, _, Im.toDp ox (by simp only [PyData.hasDict]), Im.toDp oy (by simp only [PyData.hasDict]), rfl, rfl, q _ _ _ (Same.refl _) rBl ?_⟩
    rw [eqv_int]
    exact g
  | gen hx hy sx sy g => exact ⟨_, _, ox.dp (e0.trans e1) hx (nd_of_shaped sx), oy.dp (e0.trans e1) hy (nd_of_shaped sy), sx, sy, q _ _ _ (Same.refl _) rBl g⟩
inductive NeP : Res → Res → (Res → Prop) → Prop
  | int {i j : Int} {k : Res → Prop} : k (.dat (.bool (!decide (i = j)))) → NeP (.dat (.int i)) (.dat (.int j)) k
  | gen {x y : Res} {d e : PyData} {k : Res → Prop} : x.data = some d → y.data = some e → SeqAt.shaped d = true → SeqAt.shaped e = true → k (.dat (.bool (!PyData.eqv d e))) → NeP x y k
theorem opNe : OpOk K (rNeD K) NeP := by
  intro B H H1 x y rx ry k Q e0 e1 ox oy p q
  cases p with
  | int g =>
    refine ⟨_, _, Im.toDp ox (by simp only [PyData.hasDict]), Im.toDp oy (by simp only [PyData.hasDict]), rfl, rfl, q _ _ _ (Same.refl _) rBl ?_⟩
    rw [eqv_int]
    exact g
  | gen hx hy sx sy g => exact ⟨_, _, ox.dp (e0.trans e1) hx (nd_of_shaped sx), oy.dp (e0.trans e1) hy (nd_of_shaped sy), sx, sy, q _ _ _ (Same.refl _) rBl g⟩
def rLtI : R2 := rI0 fun i j => .bl (decide (i < j))
def rLtA (K : PySem.W.Frag) : R2 := fun x y H Q => rLtI x y H Q ∨ rLtT K x y H Q
theorem oLt {X : Cx} (hu : X.A.units < cLine) : OpR X (compareOp .Lt) (rLtA X.K) := .or op_lt (op_ltT hu)
inductive LtP : Res → Res → (Res → Prop) → Prop
  | int {i j : Int} {k : Res → Prop} : k (.dat (.bool (decide (i < j)))) → LtP (.dat (.int i)) (.dat (.int j)) k
  | tup {ns ms : List Int} {k : Res → Prop} : k (.dat (.bool (HT.lexLt ns ms))) → LtP (.dat (.tuple (ns.map .int))) (.dat (.tuple (ms.map .int))) k
theorem opLt : OpOk K (rLtA K) LtP := by
  intro B H H1 x y rx ry k Q e0 e1 ox oy p q
  cases p with
  | int g =>
    cases ox; cases oy
    exact .inl ⟨_, _, rfl, rfl, q _ _ _ (Same.refl _) rBl g⟩
  | tup g =>
    cases ox with
    | tup sx ix =>
      cases oy with
      | tup sy iy =>
        rw [ix.of_ints] at sx
        rw [iy.of_ints] at sy
        exact .inr ⟨_, _, _, _, rfl, rfl, sx, sy, q _ _ _ (Same.refl _) rBl g⟩
def rLe : R2 := rI0 fun i j => .bl (decide (i ≤ j))
def rGt : R2 := rI0 fun i j => .bl (decide (j < i))
def rGe : R2 := rI0 fun i j => .bl (decide (j ≤ i))
theorem oLe {X : Cx} : OpR X (compareOp .LtE) rLe := op_le
theorem oGt {X : Cx} : OpR X (compareOp .Gt) rGt := op_gt
theorem oGe {X : Cx} : OpR X (compareOp .GtE) rGe := op_ge
theorem opLe : OpOk K rLe (IntP (fun _ _ => True) fun i j => .bool (decide (i ≤ j))) := opI0 fun _ _ _ => .bl _
theorem opGt : OpOk K rGt (IntP (fun _ _ => True) fun i j => .bool (decide (j < i))) := opI0 fun _ _ _ => .bl _
theorem opGe : OpOk K rGe (IntP (fun _ _ => True) fun i j => .bool (decide (j ≤ i))) := opI0 fun _ _ _ => .bl _
theorem le_i {i j : Int} (g : k (.dat (.bool (decide (i ≤ j))))) : IntP (fun _ _ => True) (fun i j => .bool (decide (i ≤ j))) (.dat (.int i)) (.dat (.int j)) k := .mk trivial g
theorem gt_i {i j : Int} (g : k (.dat (.bool (decide (j < i))))) : IntP (fun _ _ => True) (fun i j => .bool (decide (j < i))) (.dat (.int i)) (.dat (.int j)) k := .mk trivial g
theorem ge_i {i j : Int} (g : k (.dat (.bool (decide (j ≤ i))))) : IntP (fun _ _ => True) (fun i j => .bool (decide (j ≤ i))) (.dat (.int i)) (.dat (.int j)) k := .mk trivial g
def rIsNo : R2 := fun x y H Q => y = .non ∧ Q (.bl (decide (x = .non))) H
def rNotNo : R2 := fun x y H Q => y = .non ∧ Q (.bl (!decide (x = .non))) H
theorem oIsNo {X : Cx} : OpR X (compareOp .Is) rIsNo := op_isN
theorem oNotNo {X : Cx} : OpR X (compareOp .IsNot) rNotNo := op_notN
def isNo : PyData → Bool
  | .none => true
  | _ => false
theorem isNo_im {H : Hp} {v : V} {d : PyData} (h : Im K H v d) : decide (v = .non) = isNo d := by
  cases h <;> first | rfl | exact decide_eq_false (fun q => nomatch q)
inductive NoP (f : Bool → Bool) : Res → Res → (Res → Prop) → Prop
  | dat {d : PyData} {k : Res → Prop} : k (.dat (.bool (f (isNo d)))) → NoP f (.dat d) (.dat .none) k
theorem opIsNo : OpOk K rIsNo (NoP id) := by
  intro B H H1 x y rx ry k Q e0 e1 ox oy p q
  cases p with
  | dat g =>
    cases oy
    refine ⟨rfl, ?_⟩
    rw [isNo_im ox]
    exact q _ _ _ (Same.refl _) rBl g
theorem opNotNo : OpOk K rNotNo (NoP not) := by
  intro B H H1 x y rx ry k Q e0 e1 ox oy p q
  cases p with
  | dat g =>
    cases oy
    refine ⟨rfl, ?_⟩
    rw [isNo_im ox]
    exact q _ _ _ (Same.refl _) rBl g

/-! ### subscripts, slices -/
theorem atI_im {H : Hp} {vs : List V} {ds : List PyData} {i : Int} {d : PyData} (h : ImAll K H vs ds) (e : atI ds i = some d) : ∃ v, atI vs i = some v ∧ Im K H v d := by
  unfold atI at e ⊢
  rw [h.length]
  cases hj : ixN ds.length i with
  | none => rw [hj] at e; cases e
  | some j =>
    rw [hj] at e
    exact h.get e
inductive IxP : Res → Res → (Res → Prop) → Prop
  | lst {x : Res} {ds : List PyData} {i : Int} {d : PyData} {k : Res → Prop} : x.items = some ds → atI ds i = some d → k (.dat d) → IxP x (.dat (.int i)) k
  | tup {ds : List PyData} {i : Int} {d : PyData} {k : Res → Prop} : atI ds i = some d → k (.dat d) → IxP (.dat (.tuple ds)) (.dat (.int i)) k
theorem opIx : OpOk K (rIx K) IxP := by
  intro B H H1 x y rx ry k Q e0 e1 ox oy p q
  cases p with
  | lst hx ha g =>
    obtain ⟨a, xs, rfl, h1, h2⟩ := ox.list (e0.trans e1) hx
    cases oy
    obtain ⟨v, h3, h4⟩ := atI_im h2 ha
    exact .inl ⟨a, xs, _, v, rfl, rfl, h1, h3, q _ _ _ (Same.refl _) (rIm h4) g⟩
  | tup ha g =>
    cases ox with
    | tup sx ix =>
      cases oy
      obtain ⟨v, h3, h4⟩ := atI_im ix ha
      exact .inr (.inl ⟨_, _, _, v, rfl, rfl, sx, h3, q _ _ _ (Same.refl _) (rIm h4) g⟩)
def rSl (K : PySem.W.Frag) : V → Option Int → Option Int → Hp → VK → Prop := fun x lo hi H Q => rSlL K x lo hi H Q ∨ rSlA K x lo hi H Q
theorem oSl {X : Cx} : SlR X (rSl X.K) := .or sl_list sl_tupA
theorem eo_none {k : Option Int → Prop} (q : k none) : EvO K tNoPart δ k := fun B H σ R Q g => g none H (Same.refl H) q
theorem eo_some {k : Option Int → Prop} (q : EvC K te δ fun x => ∃ i, x = .dat (.int i) ∧ k (some i)) : EvO K (tPart te) δ k := fun B H σ R Q g =>
  q B H σ R _ fun v H' x e o ⟨i, hx, kx⟩ => by
    subst hx
    cases o
    exact ⟨i, rfl, g _ _ e kx⟩
inductive SlP : Res → Option Int → Option Int → (Res → Prop) → Prop
  | lst {x : Res} {ds : List PyData} {lo hi : Option Int} {k : Res → Prop} : x.items = some ds → k (.fresh (cutD ds lo hi)) → SlP x lo hi k
  | tup {ds : List PyData} {lo hi : Option Int} {k : Res → Prop} : k (.dat (.tuple (cutD ds lo hi))) → SlP (.dat (.tuple ds)) lo hi k
theorem cutD_all {ds : List PyData} {lo hi : Option Int} (h : HT.sIx ds.length 0 lo = 0 ∧ HT.sIx ds.length ds.length hi = ds.length) : cutD ds lo hi = ds := by
  unfold cutD
  rw [h.1, h.2]
  simp
theorem ec_sl {tl th : TO} (g : EvC K te δ fun x => EvO K tl δ fun lo => EvO K th δ fun hi => SlP x lo hi k) : EvC K (tSl (rSl K) te tl th) δ k := by
  intro B H σ R Q q
  refine g B H σ R _ fun x H1 rx e1 ox g1 => ?_
  refine g1 B H1 σ (R.grow e1) _ fun lo H2 e2 g2 => ?_
  refine g2 B H2 σ (R.grow (e1.trans e2)) _ fun hi H3 e3 p => ?_
  have e := (e1.trans e2).trans e3
  have ox := (ox.grow e2).grow e3
  cases p with
  | lst hx g =>
    obtain ⟨a, xs, rfl, h1, h2⟩ := ox.list (R.same.trans e) hx
    refine .inl ⟨a, xs, rfl, h1, fun p hp => ?_⟩
    exact q _ _ _ (e.trans (same_new hp)) (rFreshN e hp (h2.cut lo hi)) g
  | tup g =>
    cases ox with
    | tup sx ix tx =>
      refine .inr ⟨_, _, rfl, sx, fun z => ?_, fun _ p hp => ?_⟩
      · rw [ix.length] at z
        rw [cutD_all z] at g
        exact q _ _ _ e (rTup sx ix tx) g
      · exact q _ _ _ (e.trans (same_new hp)) (rTupN hp (ix.cut lo hi)) g

/-! ### - -/
def rNeg : V → Hp → VK → Prop := rU fun i => .int (-i)
theorem oNeg {X : Cx} : UnR X (unaryOp .USub) rNeg := un_neg
theorem ec_neg (g : EvC K te δ fun x => ∃ i, x = .dat (.int i) ∧ k (.dat (.int (-i)))) : EvC K (tUn rNeg te) δ k := fun B H σ R Q q =>
  g B H σ R _ fun v H' x e o ⟨i, hx, kx⟩ => by
    subst hx
    cases o
    exact ⟨i, rfl, q _ _ _ e rInt kx⟩

/-! ### tests -/
theorem et_test {kb : Bool → Prop} (g : EvC K te δ fun x => ∃ b, x = .dat (.bool b) ∧ kb b) : EvT K (tTest te) δ kb := fun B H σ R Q q =>
  g B H σ R _ fun v H' x e o ⟨b, hx, kx⟩ => by
    subst hx
    cases o
    exact ⟨b, rfl, q _ _ e kx⟩
def tTr (K : PySem.W.Frag) (ta : TE) : TT := fun σ H Q => ta σ H fun x H' => ∃ k, TruV K x H' k ∧ Q k H'
inductive TrP : Res → (Bool → Prop) → Prop
  | bool {b : Bool} {k : Bool → Prop} : k b → TrP (.dat (.bool b)) k
  | none {k : Bool → Prop} : k false → TrP (.dat .none) k
  | int {i : Int} {k : Bool → Prop} : k (i != 0) → TrP (.dat (.int i)) k
  | lst {x : Res} {ds : List PyData} {k : Bool → Prop} : x.items = some ds → k (!ds.isEmpty) → TrP x k
  | tup {ds : List PyData} {k : Bool → Prop} : k (!ds.isEmpty) → TrP (.dat (.tuple ds)) k
theorem isEmpty_im {H : Hp} {vs : List V} {ds : List PyData} (h : ImAll K H vs ds) : vs.isEmpty = ds.isEmpty := by cases h <;> rfl
theorem et_tr {kb : Bool → Prop} (g : EvC K te δ fun x => TrP x kb) : EvT K (tTr K te) δ kb := fun B H σ R Q q =>
  g B H σ R _ fun v H' x e o p => by
    cases p with
    | bool g => cases o; exact ⟨_, rfl, q _ _ e g⟩
    | none g => cases o; exact ⟨_, rfl, q _ _ e g⟩
    | int g => cases o; exact ⟨_, rfl, q _ _ e g⟩
    | lst hx g =>
      obtain ⟨a, xs, rfl, h1, h2⟩ := o.list (R.same.trans e) hx
      exact ⟨_, .inl ⟨xs, h1, rfl⟩, q _ _ e (by rw [isEmpty_im h2]; exact g)⟩
    | tup g =>
      cases o with
      | tup sx ix => exact ⟨_, .inr (.inl ⟨_, sx, rfl⟩), q _ _ e (by rw [isEmpty_im ix]; exact g)⟩
/-- both ways of a test -/
def Br (b : Bool) (X Y : Prop) : Prop := (b = true → X) ∧ (b = false → Y)
theorem Br.t {X Y : Prop} (h : X) : Br true X Y := ⟨fun _ => h, fun e => Bool.noConfusion e⟩
theorem Br.f {X Y : Prop} (h : Y) : Br false X Y := ⟨fun e => Bool.noConfusion e, fun _ => h⟩
theorem et_and {t u : TT} {kb : Bool → Prop} (g : EvT K t δ fun b => Br b (EvT K u δ kb) (kb false)) : EvT K (tAnd t u) δ kb := fun B H σ R Q q =>
  g B H σ R _ fun b H1 e1 p => by
    cases b with
    | true => exact p.1 rfl B H1 σ (R.grow e1) Q fun c H2 e2 kc => q c H2 (e1.trans e2) kc
    | false => exact q false H1 e1 (p.2 rfl)
theorem et_or {t u : TT} {kb : Bool → Prop} (g : EvT K t δ fun b => Br b (kb true) (EvT K u δ kb)) : EvT K (tOr t u) δ kb := fun B H σ R Q q =>
  g B H σ R _ fun b H1 e1 p => by
    cases b with
    | true => exact q true H1 e1 (p.1 rfl)
    | false => exact p.2 rfl B H1 σ (R.grow e1) Q fun c H2 e2 kc => q c H2 (e1.trans e2) kc
theorem et_not {t : TT} {kb : Bool → Prop} (g : EvT K t δ fun b => kb (!b)) : EvT K (tNot t) δ kb := fun B H σ R Q q => g B H σ R _ fun b H1 e1 p => q _ H1 e1 p
theorem ec_if {t : TT} (g : EvT K t δ fun b => Br b (EvC K ta δ k) (EvC K tb δ k)) : EvC K (tIf t ta tb) δ k := fun B H σ R Q q =>
  g B H σ R _ fun b H1 e1 p => by
    cases b with
    | true => exact p.1 rfl B H1 σ (R.grow e1) Q fun v H2 r e2 o kc => q v H2 r (e1.trans e2) (o.from_ e1) kc
    | false => exact p.2 rfl B H1 σ (R.grow e1) Q fun v H2 r e2 o kc => q v H2 r (e1.trans e2) (o.from_ e1) kc
theorem ec_and (g : EvC K ta δ fun x => ∃ b, x = .dat (.bool b) ∧ Br b (EvC K tb δ k) (k (.dat (.bool false)))) : EvC K (tAndV ta tb) δ k := fun B H σ R Q q =>
  g B H σ R _ fun v H1 x e1 o ⟨b, hx, p⟩ => by
    subst hx
    cases o
    cases b with
    | true => exact ⟨true, rfl, p.1 rfl B H1 σ (R.grow e1) Q fun v H2 r e2 o kc => q v H2 r (e1.trans e2) (o.from_ e1) kc⟩
    | false => exact ⟨false, rfl, q _ H1 _ e1 rBl (p.2 rfl)⟩
theorem ec_or (g : EvC K ta δ fun x => ∃ b, x = .dat (.bool b) ∧ Br b (k (.dat (.bool true))) (EvC K tb δ k)) : EvC K (tOrV ta tb) δ k := fun B H σ R Q q =>
  g B H σ R _ fun v H1 x e1 o ⟨b, hx, p⟩ => by
    subst hx
    cases o
    cases b with
    | true => exact ⟨true, rfl, q _ H1 _ e1 rBl (p.1 rfl)⟩
    | false => exact ⟨false, rfl, p.2 rfl B H1 σ (R.grow e1) Q fun v H2 r e2 o kc => q v H2 r (e1.trans e2) (o.from_ e1) kc⟩
theorem ec_not (g : EvC K te δ fun x => ∃ b, x = .dat (.bool b) ∧ k (.dat (.bool (!b)))) : EvC K (tNotV te) δ k := fun B H σ R Q q =>
  g B H σ R _ fun v H' x e o ⟨b, hx, kx⟩ => by
    subst hx
    cases o
    exact ⟨b, rfl, q _ _ _ e rBl kx⟩
/-- a < b < c -/
theorem ec_chain {r' : R2} {tc : TE} {P P' : Res → Res → (Res → Prop) → Prop} (h : OpOk K r P) (h' : OpOk K r' P')
    (g : EvC K ta δ fun x => EvC K tb δ fun y => P x y fun z => ∃ b, z = .dat (.bool b) ∧ Br b (EvC K tc δ fun w => P' y w k) (k (.dat (.bool false)))) : EvC K (tChain r r' ta tb tc) δ k := by
  intro B H σ R Q q
  refine g B H σ R _ fun x H1 rx e1 o1 g1 => ?_
  refine g1 B H1 σ (R.grow e1) _ fun y H2 ry e2 o2 p => ?_
  have e12 := e1.trans e2
  refine h B H H2 x y rx ry _ _ R.same e12 (o1.grow e2) (o2.from_ e1) p fun z H3 rz e3 o3 ⟨b, hz, hb⟩ => ?_
  subst hz
  cases o3
  refine ⟨b, rfl, ?_⟩
  cases b with
  | true =>
    rw [if_pos rfl]
    have e13 := e12.trans e3
    refine hb.1 rfl B H3 σ (R.grow e13) _ fun w H4 rw_ e4 o4 p' => ?_
    exact h' B H H4 y w ry rw_ k Q R.same (e13.trans e4) ((o2.from_ e1).grow (e3.trans e4)) (o4.from_ e13) p' fun z H5 rz e5 o5 kz => q z H5 rz ((e13.trans e4).trans e5) o5 kz
  | false =>
    rw [if_neg Bool.false_ne_true]
    exact q _ _ _ (e12.trans e3) rBl (hb.2 rfl)

/-! ### argument lists, displays -/
theorem ea_nil {k : List Res → Prop} (q : k []) : EvA K tNil δ k := fun B H σ R Q g => g [] H [] (Same.refl H) .nil q
theorem ArgsOk.grow {B H H1 H2 : Hp} {vs : List V} {rs : List Res} (e : Same H1 H2) (h : ArgsOk K B H H1 vs rs) : ArgsOk K B H H2 vs rs := by
  induction h with
  | nil => exact .nil
  | cons h1 _ ih => exact .cons (h1.grow e) ih
theorem ea_cons {tr : TA} {k : List Res → Prop} (g : EvC K te δ fun x => EvA K tr δ fun xs => k (x :: xs)) : EvA K (tCons te tr) δ k := by
  intro B H σ R Q q
  refine g B H σ R _ fun x H1 rx e1 o1 g1 => ?_
  refine g1 B H1 σ (R.grow e1) _ fun xs H2 rs e2 o2 p => ?_
  exact q _ _ _ (e1.trans e2) (.cons (o1.grow e2) (o2.from_ e1)) p
/-- results that are data already -/
def dats : List Res → Option (List PyData)
  | [] => some []
  | .dat d :: r => (dats r).map (d :: ·)
  | _ :: _ => none
theorem dats_im {B H H' : Hp} : ∀ {rs : List Res} {vs : List V} {ds : List PyData}, ArgsOk K B H H' vs rs → dats rs = some ds → ImAll K H' vs ds
  | [], _, _, .nil, e => by cases e; exact .nil
  | .dat d :: rs, _, _, .cons h1 h2, e => by
    unfold dats at e
    cases hr : dats rs with
    | none => rw [hr] at e; cases e
    | some es =>
      rw [hr] at e
      cases e
      exact .cons h1 (dats_im h2 hr)
  | .bor _ :: _, _, _, _, e => by cases e
  | .len _ :: _, _, _, _, e => by cases e
  | .fresh _ :: _, _, _, _, e => by cases e
  | .bag :: _, _, _, _, e => by cases e
  | .borD _ _ :: _, _, _, _, e => by cases e
  | .lenD _ _ :: _, _, _, _, e => by cases e
  | .freshD _ _ :: _, _, _, _, e => by cases e
theorem ec_tup {t : TA} (g : EvA K t δ fun rs => ∃ ds, dats rs = some ds ∧ ds.length ≤ 1000 ∧ k (.dat (.tuple ds))) : EvC K (tTup t) δ k := by
  intro B H σ R Q q
  refine g B H σ R _ fun xs H1 rs e1 o1 ⟨ds, hd, hl, kx⟩ => ?_
  have im := dats_im o1 hd
  refine ⟨by rw [im.length]; exact Nat.le_of_lt (small1000 hl), fun p hp => ?_⟩
  exact q _ _ _ (e1.trans (same_new hp)) (rTupN hp im) kx
theorem ec_lst {t : TA} (g : EvA K t δ fun rs => ∃ ds, dats rs = some ds ∧ ds.length ≤ 1000 ∧ k (.fresh ds)) : EvC K (tLst t) δ k := by
  intro B H σ R Q q
  refine g B H σ R _ fun xs H1 rs e1 o1 ⟨ds, hd, hl, kx⟩ => ?_
  have im := dats_im o1 hd
  refine ⟨by rw [im.length]; exact Nat.le_of_lt (small1000 hl), fun p hp => ?_⟩
  exact q _ _ _ (e1.trans (same_new hp)) (rFreshN e1 hp im) kx

/-! ### a list that is locked for ever -/
def tFrz (te : TE) : TE := fun σ H Q => te σ H fun v H1 => Q v H1 ∨ ∃ p u, v = .ref p ∧ H1 p = some u ∧ (isTbl u = false ∧ Mut (some u)) ∧ ∀ o, Q v (upd H1 p (.frz o u))
theorem pe_frz {X : Cx} {e : Expr} (h : PE X e te) : PE X e (tFrz te) := by
  refine ⟨fun pins s σ H Q I hq => ?_⟩
  refine thn (h.run pins s σ H _ I hq) fun u s' ⟨v, H1, I1, rv, hv⟩ => ?_
  rcases hv with hv | ⟨p, u, rfl, hp, ⟨_, hm⟩, hv⟩
  · exact ⟨v, H1, I1, rv, hv⟩
  · obtain ⟨o, I2⟩ := I1.lock hp hm
    exact ⟨_, _, I2, rv, hv o⟩
def frzR : Res → Res
  | .fresh ds => .dat (.list ds)
  | .freshD false ds => .dat (.dict ds)
  | x => x
theorem same_mut {H H1 : Hp} {p : Addr} {u o : HO} (e : Same H H1) (hn : H p = none) (h : H1 p = some u) (k : (∀ ps, u ≠ .tbl ps) ∧ (∀ c q, u ≠ LamX.CodeO c q)) : Same H (upd H1 p o) := by
  have ne : ∀ {b u}, H b = some u → b ≠ p := fun {b u} hb z => by
    rw [z, hn] at hb
    cases hb
  exact ⟨fun b u hb k => by rw [upd_ne (ne hb)]; exact e.at_ b u hb k, fun b ps hb => by rw [upd_ne (ne hb)]; exact e.tb b ps hb, fun t => tabs_upd h k.1 k.2 (e.tabs t)⟩
theorem dic_frz {H H' : Hp} {p : Addr} {ob : Obj} {o : HO} {ds : List (PyData × PyData)} (d : DicIs K H false o ds) (e : Per H H') (h : H' p = some (.frz ob o)) : Im K H' (.ref p) (.dict ds) := by
  cases d with
  | k q => exact .dic _ ⟨ob, h⟩ (q.per e).imD rfl
theorem ec_frz (g : EvC K te δ fun x => k (frzR x)) : EvC K (tFrz te) δ k := by
  intro B H σ R Q q
  refine g B H σ R _ fun v H1 x e o kx => ?_
  cases x with
  | fresh ds =>
    obtain ⟨p, vs, rfl, h1, h2, h3⟩ := o
    refine .inr ⟨p, _, rfl, h2, ⟨rfl, trivial⟩, fun ob => ?_⟩
    have e2 : Same H (upd H1 p (.frz ob (.lst vs))) := same_lst e h1 h2
    have e3 : Per H1 (upd H1 p (.frz ob (.lst vs))) := per_upd h2 rfl
    exact q _ _ _ e2 (rLst ⟨ob, upd_same⟩ (h3.to e3)) kx
  | freshD t ds =>
    cases t with
    | true => exact .inl (q _ _ _ e o kx)
    | false =>
      obtain ⟨p, u, rfl, h1, h2, h3⟩ := o
      refine .inr ⟨p, u, rfl, h2, ⟨h3.free.2, h3.mut⟩, fun ob => ?_⟩
      exact q _ _ _ (same_mut e h1 h2 h3.notl) (rIm (dic_frz h3 (per_upd h2 h3.free.1) upd_same)) kx
  | dat d => exact .inl (q _ _ _ e o kx)
  | bor d => exact .inl (q _ _ _ e o kx)
  | len d => exact .inl (q _ _ _ e o kx)
  | bag => exact .inl (q _ _ _ e o kx)
  | borD t d => exact .inl (q _ _ _ e o kx)
  | lenD t d => exact .inl (q _ _ _ e o kx)

/-! ### built-in functions -/
def CbOk (K : PySem.W.Frag) (r : List V → Hp → VK → Prop) (P : List Res → (Res → Prop) → Prop) : Prop :=
  ∀ (B H H1 : Hp) (vs : List V) (rs : List Res) (k : Res → Prop) (Q : VK), Same B H → Same H H1 → ArgsOk K B H H1 vs rs → P rs k →
    (∀ z H2 rz, Same H1 H2 → ResOk K B H H2 z rz → k rz → Q z H2) → r vs H1 Q
theorem ec_cb {r : List V → Hp → VK → Prop} {P : List Res → (Res → Prop) → Prop} {t : TA} (h : CbOk K r P) (g : EvA K t δ fun rs => P rs k) : EvC K (tCB r t) δ k := by
  intro B H σ R Q q
  refine g B H σ R _ fun xs H1 rs e1 o1 p => ?_
  exact h B H H1 xs rs k Q R.same e1 o1 p fun z H2 rz e2 o2 kz => q z H2 rz (e1.trans e2) o2 kz
def bAbs : List V → Hp → VK → Prop := fun xs H Q => ∃ i, xs = [.int i] ∧ Q (.int (if i < 0 then -i else i)) H
def bMax2 : List V → Hp → VK → Prop := fun xs H Q => ∃ i j, xs = [.int i, .int j] ∧ Q (.int (if j > i then j else i)) H
def bMin2 : List V → Hp → VK → Prop := fun xs H Q => ∃ i j, xs = [.int i, .int j] ∧ Q (.int (if j < i then j else i)) H
def bInt : List V → Hp → VK → Prop := fun xs H Q => (∃ i, xs = [.int i] ∧ Q (.int i) H) ∨ ∃ k, xs = [.bl k] ∧ Q (.int (if k then 1 else 0)) H
def bLenD : List V → Hp → VK → Prop := fun xs H Q => ∃ (p : Addr) (o : HO) (n : Nat), xs = [.ref p] ∧ Rd H p o ∧ ((∃ kvs, o = .dK kvs ∧ kvs.length = n) ∨ ∃ kvs, o = .dT kvs ∧ kvs.length = n) ∧ Q (.int n) H
def bLen (K : PySem.W.Frag) : List V → Hp → VK → Prop := fun xs H Q => (∃ x n, xs = [x] ∧ LenV K x H n ∧ Q (.int n) H) ∨ bLenD xs H Q
def bList (K : PySem.W.Frag) : List V → Hp → VK → Prop := fun xs H Q => ∃ p ys, xs = [.ref p] ∧ (SqL K H p ys ∨ SqT K H p ys) ∧ ∀ l, H l = none → Q (.ref l) (upd H l (.lst ys))
def bTuple (K : PySem.W.Frag) : List V → Hp → VK → Prop := fun xs H Q => ∃ p ys, xs = [.ref p] ∧ ((SqL K H p ys ∧ ∀ l, H l = none → Q (.ref l) (upd H l (.tup ys))) ∨ (SqT K H p ys ∧ Q (.ref p) H))
section
variable {X : Cx}
theorem cAbs : CallR X (.builtin "abs") bAbs := call_abs
theorem cMax2 (hc : X.calm = true) : CallR X (.builtin "max") bMax2 := call_max2 hc
theorem cMin2 (hc : X.calm = true) : CallR X (.builtin "min") bMin2 := call_min2 hc
theorem cInt : CallR X (.type "int") bInt := call_int1
theorem cLenD : CallR X (.builtin "len") bLenD := by
  intro pins s σ H xs us Q I r h
  obtain ⟨p, o, n, rfl, hp, hn, q⟩ := h
  obtain ⟨u, rfl, rx⟩ := vals1 r
  obtain rfl : u = .ref p := rx
  rcases hn with ⟨kvs, rfl, rfl⟩ | ⟨kvs, rfl, rfl⟩
  · exact d_len I hp fun t s' I' => ⟨.int ((kvs.length : Nat) : Int), H, I', ⟨_, rfl⟩, q⟩
  · obtain ⟨z, hd, ys, rel, dd⟩ := dt_rd I.hok hp
    have hl : kvs.length = ys.length := Paired.length rel
    refine call_len_dictH hd dd (by rw [← hl]; rw [sizeLine_eq] at z; omega) ?_
    rw [← hl]
    exact ⟨.int ((kvs.length : Nat) : Int), H, I.tok _, ⟨_, rfl⟩, q⟩
theorem cLen : CallR X (.builtin "len") (bLen X.K) := by
  intro pins s σ H xs us Q I r h
  rcases h with h | h
  · exact call_len pins s σ H xs us Q I r h
  · exact cLenD pins s σ H xs us Q I r h
theorem cList : CallR X (.type "list") (bList X.K) := call_list_of
theorem cTuple : CallR X (.type "tuple") (bTuple X.K) := call_tuple_of
end
inductive AbsP : List Res → (Res → Prop) → Prop
  | mk {i : Int} {k : Res → Prop} : k (.dat (.int (if i < 0 then -i else i))) → AbsP [.dat (.int i)] k
theorem cbAbs : CbOk K bAbs AbsP := by
  intro B H H1 vs rs k Q e0 e1 o p q
  cases p with
  | mk g =>
    cases o with
    | cons o1 o2 =>
      cases o1; cases o2
      exact ⟨_, rfl, q _ _ _ (Same.refl _) rInt g⟩
inductive Int2P (f : Int → Int → Int) : List Res → (Res → Prop) → Prop
  | mk {i j : Int} {k : Res → Prop} : k (.dat (.int (f i j))) → Int2P f [.dat (.int i), .dat (.int j)] k
theorem cbMax2 : CbOk K bMax2 (Int2P fun i j => if j > i then j else i) := by
  intro B H H1 vs rs k Q e0 e1 o p q
  cases p with
  | mk g =>
    cases o with
    | cons o1 o2 =>
      cases o2 with
      | cons o2 o3 =>
        cases o1; cases o2; cases o3
        exact ⟨_, _, rfl, q _ _ _ (Same.refl _) rInt g⟩
theorem cbMin2 : CbOk K bMin2 (Int2P fun i j => if j < i then j else i) := by
  intro B H H1 vs rs k Q e0 e1 o p q
  cases p with
  | mk g =>
    cases o with
    | cons o1 o2 =>
      cases o2 with
      | cons o2 o3 =>
        cases o1; cases o2; cases o3
        exact ⟨_, _, rfl, q _ _ _ (Same.refl _) rInt g⟩
inductive ToIntP : List Res → (Res → Prop) → Prop
  | int {i : Int} {k : Res → Prop} : k (.dat (.int i)) → ToIntP [.dat (.int i)] k
  | bool {b : Bool} {k : Res → Prop} : k (.dat (.int (if b then 1 else 0))) → ToIntP [.dat (.bool b)] k
theorem cbInt : CbOk K bInt ToIntP := by
  intro B H H1 vs rs k Q e0 e1 o p q
  cases p with
  | int g =>
    cases o with
    | cons o1 o2 =>
      cases o1; cases o2
      exact .inl ⟨_, rfl, q _ _ _ (Same.refl _) rInt g⟩
  | bool g =>
    cases o with
    | cons o1 o2 =>
      cases o1; cases o2
      exact .inr ⟨_, rfl, q _ _ _ (Same.refl _) rInt g⟩
inductive LenP : List Res → (Res → Prop) → Prop
  | lst {x : Res} {ds : List PyData} {k : Res → Prop} : x.items = some ds → k (.dat (.int (ds.length : Nat))) → LenP [x] k
  | tup {ds : List PyData} {k : Res → Prop} : k (.dat (.int (ds.length : Nat))) → LenP [.dat (.tuple ds)] k
  | str {z : Str} {k : Res → Prop} : z.length ≤ sizeLine → k (.dat (.int (z.length : Nat))) → LenP [.dat (.str z)] k
  | dic {x : Res} {t : Bool} {ds : List (PyData × PyData)} {k : Res → Prop} : x.dic = some (t, ds) → k (.dat (.int (ds.length : Nat))) → LenP [x] k
theorem cbLen : CbOk K (bLen K) LenP := by
  intro B H H1 vs rs k Q e0 e1 o p q
  cases p with
  | lst hx g =>
    cases o with
    | cons o1 o2 =>
      cases o2
      obtain ⟨a, xs, rfl, h1, h2⟩ := o1.list (e0.trans e1) hx
      refine .inl ⟨_, _, rfl, .inl ⟨xs, h1, rfl⟩, q _ _ _ (Same.refl _) rInt ?_⟩
      rw [h2.length]
      exact g
  | tup g =>
    cases o with
    | cons o1 o2 =>
      cases o2
      cases o1 with
      | tup sx ix =>
        refine .inl ⟨_, _, rfl, .inr ⟨_, sx, rfl⟩, q _ _ _ (Same.refl _) rInt ?_⟩
        rw [ix.length]
        exact g
  | str hz g =>
    cases o with
    | cons o1 o2 =>
      cases o2; cases o1
      exact .inl ⟨_, _, rfl, ⟨hz, rfl⟩, q _ _ _ (Same.refl _) rInt g⟩
  | dic hx g =>
    cases o with
    | cons o1 o2 =>
      cases o2
      obtain ⟨p, ob, rfl, h1, h2⟩ := o1.dicR (e0.trans e1) hx
      exact .inr ⟨p, ob, _, rfl, h1, h2.len, q _ _ _ (Same.refl _) rInt g⟩
inductive ListP : List Res → (Res → Prop) → Prop
  | lst {x : Res} {ds : List PyData} {k : Res → Prop} : x.items = some ds → k (.fresh ds) → ListP [x] k
  | tup {ds : List PyData} {k : Res → Prop} : k (.fresh ds) → ListP [.dat (.tuple ds)] k
theorem cbList : CbOk K (bList K) ListP := by
  intro B H H1 vs rs k Q e0 e1 o p q
  cases p with
  | lst hx g =>
    cases o with
    | cons o1 o2 =>
      cases o2
      obtain ⟨a, xs, rfl, h1, h2⟩ := o1.list (e0.trans e1) hx
      refine ⟨_, _, rfl, .inl h1, fun l hl => ?_⟩
      exact q _ _ _ (same_new hl) (rFreshN e1 hl h2) g
  | tup g =>
    cases o with
    | cons o1 o2 =>
      cases o2
      cases o1 with
      | tup sx ix =>
        refine ⟨_, _, rfl, .inr sx, fun l hl => ?_⟩
        exact q _ _ _ (same_new hl) (rFreshN e1 hl ix) g
inductive TupleP : List Res → (Res → Prop) → Prop
  | lst {x : Res} {ds : List PyData} {k : Res → Prop} : x.items = some ds → k (.dat (.tuple ds)) → TupleP [x] k
  | tup {ds : List PyData} {k : Res → Prop} : k (.dat (.tuple ds)) → TupleP [.dat (.tuple ds)] k
theorem cbTuple : CbOk K (bTuple K) TupleP := by
  intro B H H1 vs rs k Q e0 e1 o p q
  cases p with
  | lst hx g =>
    cases o with
    | cons o1 o2 =>
      cases o2
      obtain ⟨a, xs, rfl, h1, h2⟩ := o1.list (e0.trans e1) hx
      refine ⟨_, _, rfl, .inl ⟨h1, fun l hl => ?_⟩⟩
      exact q _ _ _ (same_new hl) (rTupN hl h2) g
  | tup g =>
    cases o with
    | cons o1 o2 =>
      cases o2
      cases o1 with
      | tup sx ix tx => exact ⟨_, _, rfl, .inr ⟨sx, q _ _ _ (Same.refl _) (rTup sx ix tx) g⟩⟩
/-- sum of a list of ints -/
theorem cSum {X : Cx} (hc : X.calm = true) : CallR X (.builtin "sum") (rSum X.K) := cr_sum hc
inductive SumP : List Res → (Res → Prop) → Prop
  | mk {x : Res} {ns : List Int} {k : Res → Prop} : x.items = some (ns.map .int) → k (.dat (.int ns.sum)) → SumP [x] k
theorem cbSum : CbOk K (rSum K) SumP := by
  intro B H H1 vs rs k Q e0 e1 o p q
  cases p with
  | mk hx g =>
    cases o with
    | cons o1 o2 =>
      cases o2
      obtain ⟨a, xs, rfl, h1, h2⟩ := o1.list (e0.trans e1) hx
      rw [h2.of_ints] at h1
      exact ⟨a, _, rfl, h1, q _ _ _ (Same.refl _) rInt g⟩
theorem cAll {X : Cx} (hc : X.calm = true) : CallR X (.builtin "all") (rAll X.K) := cr_all hc
inductive AllP : List Res → (Res → Prop) → Prop
  | mk {x : Res} {bs : List Bool} {k : Res → Prop} : x.items = some (bs.map .bool) → k (.dat (.bool (bs.all id))) → AllP [x] k
theorem cbAll : CbOk K (rAll K) AllP := by
  intro B H H1 vs rs k Q e0 e1 o p q
  cases p with
  | mk hx g =>
    cases o with
    | cons o1 o2 =>
      cases o2
      obtain ⟨a, xs, rfl, h1, h2⟩ := o1.list (e0.trans e1) hx
      rw [h2.of_bls] at h1
      exact ⟨a, _, rfl, h1, q _ _ _ (Same.refl _) rBl g⟩
end
end Dl

/-! own layer, statements -/
namespace Dl
variable [LamT] [XR]
open PySem PySem.Spec L2
section
variable {K : PySem.W.Frag} {B B' H H0 H1 H' : Hp} {σ : St} {δ : List Slot} {D : AEnds} {te : TE} {nx : List Slot → Prop} {rt : Res → Prop} {bk ct : List Slot → Prop}

/-! ## stores -/
def sto : Res → Slot
  | .dat d => .dat d
  | .bor ds => .lst ds
  | .len _ => .any
  | .fresh ds => .own ds
  | .bag => .bag
  | .borD t ds => .lstD t ds
  | .lenD _ _ => .any
  | .freshD t ds => .ownD t ds
theorem sto_ok {v : V} {x : Res} (e : Same B H) (o : ResOk K B H H1 v x) : SlotOk K B H1 (some v) (sto x) := by
  cases x with
  | dat d => exact ⟨v, rfl, o⟩
  | bor ds =>
    obtain ⟨p, vs, rfl, h⟩ := o
    exact ⟨p, vs, rfl, h⟩
  | len ds => trivial
  | fresh ds =>
    obtain ⟨p, vs, rfl, h1, h2⟩ := o
    exact ⟨p, vs, rfl, e.free h1, h2⟩
  | bag =>
    obtain ⟨p, rfl, h⟩ := o
    exact ⟨p, rfl, h⟩
  | borD t ds =>
    obtain ⟨p, ob, rfl, h⟩ := o
    exact ⟨p, ob, rfl, h⟩
  | lenD t ds => trivial
  | freshD t ds =>
    obtain ⟨p, ob, rfl, h1, h2⟩ := o
    exact ⟨p, ob, rfl, e.free h1, h2⟩
theorem own_thing {i : Nat} {s : Slot} {p : Addr} (R : Rel K B H σ δ) (h : δ[i]? = some s) (hs : isOwn s = true) (hp : σ[i]? = some (some (.ref p))) : B p = none ∧ ∃ u, H p = some u ∧ keeps u = false ∧ isTbl u = false ∧ (∀ ps, u ≠ .tbl ps) ∧ (∀ c q, u ≠ LamX.CodeO c q) := by
  have h0 := R.at_ i _ h
  cases s with
  | own ds =>
    obtain ⟨q, vs, h1, hb, h2, _⟩ := h0
    rw [hp] at h1
    cases h1
    exact ⟨hb, _, h2, rfl, rfl, fun _ z => (nomatch z), fun c q z => by unfold LamX.CodeO at z; cases z⟩
  | ownD t ds =>
    obtain ⟨q, ob, h1, hb, h2, h3⟩ := h0
    rw [hp] at h1
    cases h1
    exact ⟨hb, _, h2, h3.free.1, h3.free.2, h3.notl⟩
  | _ => cases hs
def isFresh : Res → Bool
  | .fresh _ => true
  | .freshD _ _ => true
  | _ => false
/-- the slot i gets v: fresh lists are not those of other slots -/
theorem Rel.set {v : V} {x : Res} {i : Nat} (R : Rel K B H σ δ) (e : Same H H1) (o : ResOk K B H0 H1 v x) (e0 : Same B H0) (hf : Unit → isFresh x = true → Same H H0) : Rel K B H1 (σ.set i (some v)) (δ.set i (sto x)) := by
  have R1 := R.grow e
  refine ⟨R1.same, R1.x, R1.tabs, by rw [List.length_set, List.length_set]; exact R.len, fun j s hs => ?_, fun j l s t p hjl hj hl sj sl hpj hpl => ?_⟩
  · by_cases hij : i = j
    · subst hij
      have hi : i < δ.length := by
        have := (List.getElem?_eq_some_iff.mp hs).1
        rwa [List.length_set] at this
      have hi2 : i < σ.length := by rw [R.len]; exact hi
      rw [List.getElem?_set_self hi] at hs
      cases hs
      rw [List.getElem?_set_self hi2]
      exact sto_ok e0 o
    · rw [List.getElem?_set_ne hij] at hs
      rw [List.getElem?_set_ne hij]
      exact R1.at_ j s hs
  · -- two owned slots with one address
    have key : ∀ (m : Nat) (u : Slot), m ≠ i → (δ.set i (sto x))[m]? = some u → isOwn u = true → (σ.set i (some v))[m]? = some (some (.ref p)) → (σ.set i (some v))[i]? = some (some (.ref p)) → isOwn (sto x) = true → False := by
      intro m u hm hu su hp hpi so
      rw [List.getElem?_set_ne (Ne.symm hm)] at hu hp
      obtain ⟨_, ob, hv, _, kt, _⟩ := own_thing R hu su hp
      have hi2 : i < σ.length := by
        have := (List.getElem?_eq_some_iff.mp hpi).1
        rwa [List.length_set] at this
      rw [List.getElem?_set_self hi2] at hpi
      cases hpi
      cases x with
      | fresh es =>
        obtain ⟨q, ws, h1, h2, _⟩ := o
        cases h1
        have := (hf () rfl).at_ _ _ hv kt
        rw [h2] at this
        cases this
      | freshD t es =>
        obtain ⟨q, ws, h1, h2, _⟩ := o
        cases h1
        have := (hf () rfl).at_ _ _ hv kt
        rw [h2] at this
        cases this
      | _ => cases so
    by_cases h1 : j = i
    · subst h1
      have hi : j < δ.length := by
        have := (List.getElem?_eq_some_iff.mp hj).1
        rwa [List.length_set] at this
      have hj2 := hj
      rw [List.getElem?_set_self hi] at hj2
      cases hj2
      exact key l t (Ne.symm hjl) hl sl hpl hpj sj
    · by_cases h2 : l = i
      · subst h2
        have hi : l < δ.length := by
          have := (List.getElem?_eq_some_iff.mp hl).1
          rwa [List.length_set] at this
        have hl2 := hl
        rw [List.getElem?_set_self hi] at hl2
        cases hl2
        exact key j s hjl hj sj hpj hpl sl
      · rw [List.getElem?_set_ne (Ne.symm h1)] at hj hpj
        rw [List.getElem?_set_ne (Ne.symm h2)] at hl hpl
        exact R.apart j l s t p hjl hj hl sj sl hpj hpl
/-- an owned thing is rewritten, or locked -/
theorem Rel.wr {i : Nat} {s s' : Slot} {p : Addr} {o : HO} (R : Rel K B H σ δ) (hi : δ[i]? = some s) (hs : isOwn s = true) (hp : σ[i]? = some (some (.ref p))) (new : SlotOk K B (upd H p o) (some (.ref p)) s') :
    Rel K B (upd H p o) σ (δ.set i s') := by
  obtain ⟨bn, u, hv, ku, kt, nt⟩ := own_thing R hi hs hp
  have per : Per H (upd H p o) := per_upd hv ku
  have hlen : i < δ.length := (List.getElem?_eq_some_iff.mp hi).1
  have at2 : ∀ {j : Nat} {q : Addr}, σ[j]?.join = some (.ref q) → σ[j]? = some (some (.ref q)) := fun {j q} h1 => by
    cases hz : σ[j]? with
    | none => rw [hz] at h1; cases h1
    | some o => rw [hz] at h1; exact congrArg some h1
  refine ⟨same_mut R.same bn hv nt, R.x, tabs_upd hv nt.1 nt.2 R.tabs, by rw [List.length_set]; exact R.len, fun j t ht => ?_, fun j l t t' q hjl hj hl sj sl hpj hpl => ?_⟩
  · by_cases hij : i = j
    · subst hij
      rw [List.getElem?_set_self hlen] at ht
      cases ht
      rw [hp]
      exact new
    · rw [List.getElem?_set_ne hij] at ht
      have h0 := R.at_ j t ht
      have apt : ∀ {q : Addr}, isOwn t = true → σ[j]?.join = some (.ref q) → q ≠ p := fun {q} st h1 z => by
        subst z
        exact R.apart i j _ _ _ hij hi ht hs st hp (at2 h1)
      cases t with
      | any => trivial
      | dat d =>
        obtain ⟨v, h1, h2⟩ := h0
        exact ⟨v, h1, h2.to per⟩
      | lst es =>
        obtain ⟨q, us, h1, h2, h3⟩ := h0
        exact ⟨q, us, h1, h2.per per, h3.to per⟩
      | own es =>
        obtain ⟨q, us, h1, h2, h3, h4⟩ := h0
        exact ⟨q, us, h1, h2, by rw [upd_ne (apt rfl h1)]; exact h3, h4.to per⟩
      | bag =>
        obtain ⟨q, h1, h2⟩ := h0
        exact ⟨q, h1, h2.per per⟩
      | fn P => exact fun H2 e2 => h0 H2 (per.trans e2)
      | lstD t es =>
        obtain ⟨q, us, h1, h2, h3⟩ := h0
        exact ⟨q, us, h1, h2.per per, h3.per per⟩
      | ownD t es =>
        obtain ⟨q, us, h1, h2, h3, h4⟩ := h0
        exact ⟨q, us, h1, h2, by rw [upd_ne (apt rfl h1)]; exact h3, h4.per per⟩
  · have un : ∀ (m : Nat) (w : Slot), (δ.set i s')[m]? = some w → isOwn w = true → ∃ w', δ[m]? = some w' ∧ isOwn w' = true := by
      intro m w hu su
      by_cases hm : i = m
      · subst hm
        exact ⟨_, hi, hs⟩
      · rw [List.getElem?_set_ne hm] at hu
        exact ⟨w, hu, su⟩
    obtain ⟨w1, e1, e2⟩ := un j t hj sj
    obtain ⟨w2, e3, e4⟩ := un l t' hl sl
    exact R.apart j l w1 w2 q hjl e1 e3 e2 e4 hpj hpl
/-- an owned list is rewritten -/
theorem Rel.mut {i : Nat} {ds es : List PyData} {p : Addr} {vs ws : List V} (R : Rel K B H σ δ) (hi : δ[i]? = some (.own ds)) (hp : σ[i]? = some (some (.ref p))) (hv : H p = some (.lst vs)) (im : ImAll K H ws es) :
    Rel K B (upd H p (.lst ws)) σ (δ.set i (.own es)) := R.wr hi rfl hp ⟨p, ws, rfl, (own_thing R hi rfl hp).1, upd_same, im.to (per_upd hv rfl)⟩
/-- an owned list is locked for ever -/
theorem Rel.frz {i : Nat} {ds : List PyData} {p : Addr} {vs : List V} {o : Obj} (R : Rel K B H σ δ) (hi : δ[i]? = some (.own ds)) (hp : σ[i]? = some (some (.ref p))) (hv : H p = some (.lst vs)) (im : ImAll K H vs ds) :
    Rel K B (upd H p (.frz o (.lst vs))) σ (δ.set i (.dat (.list ds))) := R.wr hi rfl hp ⟨_, rfl, .lst ⟨o, upd_same⟩ (im.to (per_upd hv rfl))⟩
/-- an owned dict is rewritten -/
theorem Rel.mutD {i : Nat} {t t' : Bool} {ds es : List (PyData × PyData)} {p : Addr} {u u' : HO} (R : Rel K B H σ δ) (hi : δ[i]? = some (.ownD t ds)) (hp : σ[i]? = some (some (.ref p))) (hv : H p = some u) (ku : keeps u = false) (im : DicIs K H t' u' es) :
    Rel K B (upd H p u') σ (δ.set i (.ownD t' es)) := R.wr hi rfl hp ⟨p, u', rfl, (own_thing R hi rfl hp).1, upd_same, im.per (per_upd hv ku)⟩
/-- an owned dict is locked for ever -/
theorem Rel.frzD {i : Nat} {ds : List (PyData × PyData)} {p : Addr} {u : HO} {o : Obj} (R : Rel K B H σ δ) (hi : δ[i]? = some (.ownD false ds)) (hp : σ[i]? = some (some (.ref p))) (hv : H p = some u) (im : DicIs K H false u ds) :
    Rel K B (upd H p (.frz o u)) σ (δ.set i (.dat (.dict ds))) := R.wr hi rfl hp ⟨_, rfl, dic_frz im (per_upd hv im.free.1) upd_same⟩
/-- slots forgotten -/
inductive Wk : List Slot → List Slot → Prop
  | nil : Wk [] []
  | same {s : Slot} {a b : List Slot} : Wk a b → Wk (s :: a) (s :: b)
  | any {s : Slot} {a b : List Slot} : Wk a b → Wk (s :: a) (.any :: b)
theorem Wk.refl : ∀ δ : List Slot, Wk δ δ
  | [] => .nil
  | _ :: r => .same (Wk.refl r)
theorem Wk.at {a b : List Slot} (h : Wk a b) : a.length = b.length ∧ ∀ (i : Nat) (s : Slot), b[i]? = some s → s = Slot.any ∨ a[i]? = some s := by
  induction h with
  | nil => exact ⟨rfl, fun i s h => by simp at h⟩
  | same _ ih =>
    refine ⟨by simp [ih.1], fun i s h => ?_⟩
    cases i with
    | zero => exact .inr h
    | succ i => exact ih.2 i s (by simpa using h)
  | any _ ih =>
    refine ⟨by simp [ih.1], fun i s h => ?_⟩
    cases i with
    | zero => simp at h; exact .inl h.symm
    | succ i => exact ih.2 i s (by simpa using h)
theorem Rel.wk {δ' : List Slot} (R : Rel K B H σ δ) (h : Wk δ δ') : Rel K B H σ δ' := by
  obtain ⟨hl, ha⟩ := h.at
  refine ⟨R.same, R.x, R.tabs, R.len.trans hl, fun i s hs => ?_, fun i j s t p hij hi hj si sj => ?_⟩
  · rcases ha i s hs with rfl | q
    · trivial
    · exact R.at_ i s q
  · rcases ha i s hi with rfl | q
    · cases si
    · rcases ha j t hj with rfl | q'
      · cases sj
      · exact R.apart i j s t p hij q q' si sj

/-! ## targets: names and tuples of them -/
/-- the store g of x: W tells which slots may change -/
def GE (K : PySem.W.Frag) (g : TG) (x : Res) (δ : List Slot) (W : Nat → Prop) (k : List Slot → Prop) : Prop :=
  ∀ (B H H1 : Hp) (σ : St) (v : V), Rel K B H σ δ → Same H H1 → ResOk K B H H1 v x → ∀ Q : St → Hp → Prop, (∀ σ' δ', Rel K B H1 σ' δ' → σ'.length = σ.length → (∀ i, ¬ W i → σ'[i]? = σ[i]?) → k δ' → Q σ' H1) → g v σ H1 Q
def GEs (K : PySem.W.Frag) (g : TGs) (ds : List PyData) (δ : List Slot) (W : Nat → Prop) (k : List Slot → Prop) : Prop :=
  ∀ (B H : Hp) (σ : St) (vs : List V), Rel K B H σ δ → ImAll K H vs ds → ∀ Q : St → Hp → Prop, (∀ σ' δ', Rel K B H σ' δ' → σ'.length = σ.length → (∀ i, ¬ W i → σ'[i]? = σ[i]?) → k δ' → Q σ' H) → g vs σ H Q
theorem ge_name {i : Nat} {x : Res} {W : Nat → Prop} {k : List Slot → Prop} (hw : W i) (q : k (δ.set i (sto x))) : GE K (gName i) x δ W k := by
  intro B H H1 σ v R e o Q g
  refine g _ _ (R.set (i := i) e o R.same fun _ _ => Same.refl H) (by rw [List.length_set]) (fun j hj => ?_) q
  rw [List.getElem?_set_ne fun z => hj (by rw [← z]; exact hw)]
theorem ges_nil {W : Nat → Prop} {k : List Slot → Prop} (q : k δ) : GEs K gNil [] δ W k := by
  intro B H σ vs R im Q g
  cases im
  exact ⟨rfl, g σ δ R rfl (fun _ _ => rfl) q⟩
theorem ges_cons {g : TG} {gs : TGs} {d : PyData} {ds : List PyData} {W : Nat → Prop} {k : List Slot → Prop} (h : GE K g (.dat d) δ W fun δ' => GEs K gs ds δ' W k) : GEs K (gCons g gs) (d :: ds) δ W k := by
  intro B H σ vs R im Q q
  cases im with
  | cons h1 h2 =>
    refine ⟨_, _, rfl, h B H H σ _ R (Same.refl H) h1 _ fun σ' δ' R' hl hw hk => ?_⟩
    exact hk B H σ' _ R' h2 Q fun σ2 δ2 R2 hl2 hw2 hk2 => q σ2 δ2 R2 (hl2.trans hl) (fun i hi => (hw2 i hi).trans (hw i hi)) hk2
theorem ge_tup {gs : TGs} {ds : List PyData} {n : Nat} {W : Nat → Prop} {k : List Slot → Prop} (hn : ds.length = n) (h : GEs K gs ds δ W k) : GE K (gTup K n gs) (.dat (.tuple ds)) δ W k := by
  intro B H H1 σ v R e o Q q
  cases o with
  | tup sx ix => exact ⟨_, _, rfl, sx, by rw [ix.length]; exact hn, h B H1 σ _ (R.grow e) ix Q q⟩

/-! ## targets of a statement -/
def GS (K : PySem.W.Frag) (g : TG) (x : Res) (δ : List Slot) (k : List Slot → Prop) : Prop :=
  ∀ (B H H1 : Hp) (σ : St) (v : V), Rel K B H σ δ → Same H H1 → ResOk K B H H1 v x → ∀ Q : St → Hp → Prop, (∀ σ' H' δ', Rel K B H' σ' δ' → Per H1 H' → k δ' → Q σ' H') → g v σ H1 Q
def GSs (K : PySem.W.Frag) (g : TGs) (ds : List PyData) (δ : List Slot) (k : List Slot → Prop) : Prop :=
  ∀ (B H : Hp) (σ : St) (vs : List V), Rel K B H σ δ → ImAll K H vs ds → ∀ Q : St → Hp → Prop, (∀ σ' H' δ', Rel K B H' σ' δ' → Per H H' → k δ' → Q σ' H') → g vs σ H Q
theorem gs_name {i : Nat} {x : Res} {k : List Slot → Prop} (q : k (δ.set i (sto x))) : GS K (gName i) x δ k := by
  intro B H H1 σ v R e o Q g
  exact g _ _ _ (R.set (i := i) e o R.same fun _ _ => Same.refl H) (Per.refl _) q
theorem gss_nil {k : List Slot → Prop} (q : k δ) : GSs K gNil [] δ k := by
  intro B H σ vs R im Q g
  cases im
  exact ⟨rfl, g σ H δ R (Per.refl _) q⟩
theorem gss_cons {g : TG} {gs : TGs} {d : PyData} {ds : List PyData} {k : List Slot → Prop} (h : GS K g (.dat d) δ fun δ' => GSs K gs ds δ' k) : GSs K (gCons g gs) (d :: ds) δ k := by
  intro B H σ vs R im Q q
  cases im with
  | cons h1 h2 =>
    refine ⟨_, _, rfl, h B H H σ _ R (Same.refl H) h1 _ fun σ' H' δ' R' pe hk => ?_⟩
    exact hk B H' σ' _ R' (h2.to pe) Q fun σ2 H2 δ2 R2 pe2 hk2 => q σ2 H2 δ2 R2 (pe.trans pe2) hk2
theorem gs_tup {gs : TGs} {ds : List PyData} {n : Nat} {k : List Slot → Prop} (hn : ds.length = n) (h : GSs K gs ds δ k) : GS K (gTup K n gs) (.dat (.tuple ds)) δ k := by
  intro B H H1 σ v R e o Q q
  cases o with
  | tup sx ix => exact ⟨_, _, rfl, sx, by rw [ix.length]; exact hn, h B H1 σ _ (R.grow e) ix Q q⟩
theorem slot_own {i : Nat} {ds : List PyData} (R : Rel K B H σ δ) (h : δ[i]? = some (.own ds)) : ∃ p vs, σ[i]? = some (some (.ref p)) ∧ B p = none ∧ H p = some (.lst vs) ∧ ImAll K H vs ds := by
  obtain ⟨p, vs, h1, h2, h3, h4⟩ := R.at_ i _ h
  refine ⟨p, vs, ?_, h2, h3, h4⟩
  cases hz : σ[i]? with
  | none => rw [hz] at h1; cases h1
  | some o => rw [hz] at h1; exact congrArg some h1
theorem slot_ownD {i : Nat} {t : Bool} {ds : List (PyData × PyData)} (R : Rel K B H σ δ) (h : δ[i]? = some (.ownD t ds)) : ∃ p ob, σ[i]? = some (some (.ref p)) ∧ B p = none ∧ H p = some ob ∧ DicIs K H t ob ds := by
  obtain ⟨p, vs, h1, h2, h3, h4⟩ := R.at_ i _ h
  refine ⟨p, vs, ?_, h2, h3, h4⟩
  cases hz : σ[i]? with
  | none => rw [hz] at h1; cases h1
  | some o => rw [hz] at h1; exact congrArg some h1
/-- xs[j] = x, xs an owned list -/
theorem gs_sub {i : Nat} {ti : TE} {d : PyData} {ds : List PyData} {k : List Slot → Prop} (hi : δ[i]? = some (.own ds)) (h : EvC K ti δ fun y => ∃ (n : Int) (j : Nat), y = .dat (.int n) ∧ ixN ds.length n = some j ∧ k (δ.set i (.own (ds.set j d)))) :
    GS K (gSub (tVar i) ti rSetL) (.dat d) δ k := by
  intro B H H1 σ v R e o Q q
  have R1 := R.grow e
  obtain ⟨p, vs, hp, hb, hv, im⟩ := slot_own R1 hi
  refine ⟨_, hp, h B H1 σ R1 _ fun y H2 ry e2 oy ⟨n, j, hy, hn, hk⟩ => ?_⟩
  subst hy
  cases oy
  have hv2 := e2.at_ _ _ hv
  have im2 := im.to (per_same e2)
  refine ⟨p, vs, n, j, rfl, rfl, hv2, by rw [im2.length]; exact hn, ?_⟩
  exact q _ _ _ ((R1.grow e2).mut hi hp hv2 (ImAll.set (Im.to o (per_same e2)) j im2)) ((per_same e2).trans (per_upd hv2 rfl)) hk

/-! ## statements -/
theorem sd_seq {t u : TS} (h : SD K t ⟨fun δ' => SD K u ⟨nx, rt, bk, ct⟩ δ', rt, bk, ct⟩ δ) : SD K (tSeq t u) ⟨nx, rt, bk, ct⟩ δ := by
  intro B H σ R E C
  exact h B H σ R { E with nx := u E } ⟨fun σ' H' δ' R' hu => hu B H' σ' R' E C, C.rt, C.bk, C.ct⟩
theorem sd_next (h : nx δ) : SD K tNext ⟨nx, rt, bk, ct⟩ δ := fun B H σ R E C => C.nx σ H δ R h
theorem sd_break (h : bk δ) : SD K tBreak ⟨nx, rt, bk, ct⟩ δ := fun B H σ R E C => C.bk σ H δ R h
theorem sd_cont (h : ct δ) : SD K tCont ⟨nx, rt, bk, ct⟩ δ := fun B H σ R E C => C.ct σ H δ R h
theorem sd_asg {g : TG} (h : EvC K te δ fun x => GS K g x δ nx) : SD K (tAsg te g) ⟨nx, rt, bk, ct⟩ δ := by
  intro B H σ R E C
  refine h B H σ R _ fun v H1 x e o gx => ?_
  exact gx B H H1 σ v R e o _ fun σ' H' δ' R' _ kd => C.nx _ _ _ R' kd
theorem sd_par {i j : Nat} {ta tb : TE} (h : EvC K ta δ fun x => EvC K tb δ fun y => nx ((δ.set i (sto x)).set j (sto y))) : SD K (tPar i j (tCons ta (tCons tb tNil))) ⟨nx, rt, bk, ct⟩ δ := by
  intro B H σ R E C
  refine h B H σ R _ fun v H1 x e1 o1 g1 => ?_
  refine g1 B H1 σ (R.grow e1) _ fun w H2 y e2 o2 g2 => ?_
  refine ⟨v, w, rfl, C.nx _ _ _ (Rel.set (H := H1) ?_ e2 o2 (R.same.trans e1) fun _ _ => Same.refl H1) g2⟩
  exact R.set (i := i) e1 o1 R.same fun _ _ => Same.refl H
theorem sd_par3 {i j l : Nat} {ta tb tc : TE} (h : EvC K ta δ fun x => EvC K tb δ fun y => EvC K tc δ fun z => nx (((δ.set i (sto x)).set j (sto y)).set l (sto z))) : SD K (tPar3 i j l (tCons ta (tCons tb (tCons tc tNil)))) ⟨nx, rt, bk, ct⟩ δ := by
  intro B H σ R E C
  refine h B H σ R _ fun v H1 x e1 o1 g1 => ?_
  refine g1 B H1 σ (R.grow e1) _ fun w H2 y e2 o2 g2 => ?_
  refine g2 B H2 σ (R.grow (e1.trans e2)) _ fun u H3 z e3 o3 g3 => ?_
  refine ⟨v, w, u, rfl, C.nx _ _ _ (Rel.set (H := H2) ?_ e3 o3 ((R.same.trans e1).trans e2) fun _ _ => Same.refl H2) g3⟩
  refine Rel.set (H := H1) ?_ e2 o2 (R.same.trans e1) fun _ _ => Same.refl H1
  exact R.set (i := i) e1 o1 R.same fun _ _ => Same.refl H
theorem sd_ret (h : EvC K te δ rt) : SD K (tRet te) ⟨nx, rt, bk, ct⟩ δ := by
  intro B H σ R E C
  exact h B H σ R _ fun v H1 x e o hx => C.rt v H1 x (R.same.trans e) (o.from_ R.same) hx
/-- return xs, an owned list: it is the caller's from now on -/
theorem sd_retOwn {i : Nat} {ds : List PyData} (hi : δ[i]? = some (.own ds)) (h : rt (.fresh ds)) : SD K (tRet (tVar i)) ⟨nx, rt, bk, ct⟩ δ := by
  intro B H σ R E C
  obtain ⟨p, vs, hp, hb, hv, im⟩ := slot_own R hi
  exact ⟨_, hp, C.rt _ H _ R.same (rFresh hb hv im) h⟩
theorem sd_retOwnD {i : Nat} {t : Bool} {ds : List (PyData × PyData)} (hi : δ[i]? = some (.ownD t ds)) (h : rt (.freshD t ds)) : SD K (tRet (tVar i)) ⟨nx, rt, bk, ct⟩ δ := by
  intro B H σ R E C
  obtain ⟨p, vs, hp, hb, hv, im⟩ := slot_ownD R hi
  exact ⟨_, hp, C.rt _ H _ R.same (rFreshD hb hv im) h⟩
theorem sd_retN (h : rt (.dat .none)) : SD K tRetN ⟨nx, rt, bk, ct⟩ δ := fun B H σ R E C => C.rt _ H _ R.same rNon h
theorem sd_drop (h : EvC K te δ fun _ => nx δ) : SD K (tDrop te) ⟨nx, rt, bk, ct⟩ δ := by
  intro B H σ R E C
  exact h B H σ R _ fun v H1 x e o hx => C.nx σ H1 δ (R.grow e) hx
theorem sd_if {tc : TT} {t u : TS} (h : EvT K tc δ fun b => Br b (SD K t ⟨nx, rt, bk, ct⟩ δ) (SD K u ⟨nx, rt, bk, ct⟩ δ)) : SD K (tIfS tc t u) ⟨nx, rt, bk, ct⟩ δ := by
  intro B H σ R E C
  refine h B H σ R _ fun b H1 e p => ?_
  cases b with
  | true => exact p.1 rfl B H1 σ (R.grow e) E C
  | false => exact p.2 rfl B H1 σ (R.grow e) E C
theorem sd_wk {t : TS} {δ' : List Slot} (w : Wk δ δ') (h : SD K t ⟨nx, rt, bk, ct⟩ δ') : SD K t ⟨nx, rt, bk, ct⟩ δ := fun B H σ R E C => h B H σ (R.wk w) E C
/-- what follows is shown once -/
theorem sd_mid {t u : TS} (M : List Slot → Prop) (h : SD K t ⟨M, rt, bk, ct⟩ δ) (h2 : ∀ δ', M δ' → SD K u ⟨nx, rt, bk, ct⟩ δ') : SD K (tSeq t u) ⟨nx, rt, bk, ct⟩ δ :=
  sd_seq fun B H σ R E C => h B H σ R E ⟨fun σ' H' δ' R' hm => C.nx σ' H' δ' R' (h2 δ' hm), C.rt, C.bk, C.ct⟩
def tFrzS (t : TS) : TS := fun D σ H => t D σ H ∨ ∃ p u, H p = some u ∧ Mut (some u) ∧ ∀ o, t D σ (upd H p (.frz o u))
theorem pss_frz {X : Cx} {l : List Stmt} {t : TS} (h : PSs X l t) : PSs X l (tFrzS t) := by
  refine ⟨fun pins s σ H D I hq => ?_⟩
  rcases hq with hq | ⟨p, u, hp, hm, hq⟩
  · exact h.run pins s σ H D I hq
  · obtain ⟨o, I2⟩ := I.lock hp hm
    exact h.run pins s σ _ D I2 (hq o)
theorem sd_frz {i : Nat} {ds : List PyData} {t : TS} (hi : δ[i]? = some (.own ds)) (h : SD K t ⟨nx, rt, bk, ct⟩ (δ.set i (.dat (.list ds)))) : SD K (tFrzS t) ⟨nx, rt, bk, ct⟩ δ := by
  intro B H σ R E C
  obtain ⟨p, vs, hp, hb, hv, im⟩ := slot_own R hi
  exact .inr ⟨p, _, hv, trivial, fun o => h B _ σ (R.frz hi hp hv im) E C⟩
theorem sd_frzD {i : Nat} {ds : List (PyData × PyData)} {t : TS} (hi : δ[i]? = some (.ownD false ds)) (h : SD K t ⟨nx, rt, bk, ct⟩ (δ.set i (.dat (.dict ds)))) : SD K (tFrzS t) ⟨nx, rt, bk, ct⟩ δ := by
  intro B H σ R E C
  obtain ⟨p, vs, hp, hb, hv, im⟩ := slot_ownD R hi
  exact .inr ⟨p, _, hv, im.mut, fun o => h B _ σ (R.frzD hi hp hv im) E C⟩
theorem sd_nofrz {t : TS} (h : SD K t ⟨nx, rt, bk, ct⟩ δ) : SD K (tFrzS t) ⟨nx, rt, bk, ct⟩ δ := fun B H σ R E C => .inl (h B H σ R E C)

/-! ### methods of an owned list -/
theorem sd_append {i : Nat} {ds : List PyData} (hi : δ[i]? = some (.own ds)) (hz : ds.length < 1000000) (h : EvC K te δ fun x => ∃ d, x = .dat d ∧ nx (δ.set i (.own (ds ++ [d])))) :
    SD K (tDrop (tBM K "list" rAppend (tVar i) (tCons te tNil))) ⟨nx, rt, bk, ct⟩ δ := by
  intro B H σ R E C
  obtain ⟨p, vs, hp, hb, hv, im⟩ := slot_own R hi
  refine ⟨_, hp, .inl ⟨rfl, vs, SqL.of hv⟩, h B H σ R _ fun x H1 rx e o ⟨d, hx, hk⟩ => ?_⟩
  subst hx
  have hv1 := e.at_ _ _ hv
  have im1 := im.to (per_same e)
  exact ⟨p, vs, x, rfl, rfl, hv1, by rw [im.length]; exact Nat.lt_trans hz (by decide), C.nx _ _ _ ((R.grow e).mut hi hp hv1 (im1.append (.one o))) hk⟩
theorem sd_extend {i : Nat} {ds : List PyData} (hi : δ[i]? = some (.own ds)) (h : EvC K te δ fun x => ∃ es, x.mine = some es ∧ ds.length + es.length ≤ sizeLine ∧ nx (δ.set i (.own (ds ++ es)))) :
    SD K (tDrop (tBM K "list" rExtend (tVar i) (tCons te tNil))) ⟨nx, rt, bk, ct⟩ δ := by
  intro B H σ R E C
  obtain ⟨p, vs, hp, hb, hv, im⟩ := slot_own R hi
  refine ⟨_, hp, .inl ⟨rfl, vs, SqL.of hv⟩, h B H σ R _ fun x H1 rx e o ⟨es, hx, hl, hk⟩ => ?_⟩
  have hv1 := e.at_ _ _ hv
  have im1 := im.to (per_same e)
  obtain ⟨q, ws, rfl, h1, h2⟩ := o.listM hx
  exact ⟨p, q, vs, ws, rfl, rfl, hv1, h1, by rw [im.length, h2.length]; exact hl, C.nx _ _ _ ((R.grow e).mut hi hp hv1 (im1.append h2)) hk⟩
/-- x = xs.pop() -/
theorem sd_pop {i j : Nat} {ds : List PyData} {d : PyData} (hi : δ[i]? = some (.own ds)) (hd : ds[ds.length - 1]? = some d) (h : nx ((δ.set i (.own ds.dropLast)).set j (.dat d))) :
    SD K (tAsg (tBM0 K "list" rPop (tVar i)) (gName j)) ⟨nx, rt, bk, ct⟩ δ := by
  intro B H σ R E C
  obtain ⟨p, vs, hp, hb, hv, im⟩ := slot_own R hi
  obtain ⟨v, h1, h2⟩ := im.get hd
  refine ⟨_, hp, .inl ⟨rfl, vs, SqL.of hv⟩, p, vs, v, rfl, rfl, hv, by rw [im.length]; exact h1, ?_⟩
  have R1 := R.mut hi hp hv im.dropLast
  exact C.nx _ _ _ (Rel.set (x := .dat d) (H0 := upd H p (.lst vs.dropLast)) R1 (Same.refl _) (Im.to h2 (per_upd hv rfl)) R1.same fun _ z => nomatch z) h
/-- n op= e -/
theorem sd_aug {i : Nat} {f : Int → Int → Int} {a : Int} (hi : δ[i]? = some (.dat (.int a))) (h : EvC K te δ fun x => ∃ b, x = .dat (.int b) ∧ nx (δ.set i (.dat (.int (f a b))))) : SD K (tAug i te (ipI f)) ⟨nx, rt, bk, ct⟩ δ := by
  intro B H σ R E C
  obtain ⟨v, h1, h2⟩ := R.at_ i _ hi
  have hσ : σ[i]? = some (some v) := by
    cases hz : σ[i]? with
    | none => rw [hz] at h1; cases h1
    | some o => rw [hz] at h1; exact congrArg some h1
  refine ⟨v, hσ, h B H σ R _ fun y H1 ry e o ⟨b, hy, hk⟩ => ?_⟩
  subst hy
  cases o
  cases h2
  exact ⟨a, b, rfl, rfl, C.nx _ _ _ (R.set (x := .dat (.int _)) (H0 := H1) e (Im.int _) (R.same.trans e) fun _ z => nomatch z) hk⟩

/-! ## loops -/
/-- the base grows by what never changes -/
def core (B H : Hp) : Hp := fun a => match H a with
  | some o => if keeps o || isTbl o then some o else B a
  | none => B a
theorem core_at {B H : Hp} {a : Addr} {o : HO} (h : H a = some o) (k : (keeps o || isTbl o) = true) : core B H a = some o := by
  unfold core
  rw [h]
  dsimp only
  rw [if_pos k]
theorem core_or0 {B H : Hp} {a : Addr} {o : HO} (h : core B H a = some o) : H a = some o ∧ (keeps o || isTbl o) = true ∨ B a = some o ∧ ∀ u, H a = some u → (keeps u || isTbl u) = false := by
  unfold core at h
  cases hz : H a with
  | none =>
    rw [hz] at h
    exact .inr ⟨h, fun u z => nomatch z⟩
  | some u =>
    rw [hz] at h
    dsimp only at h
    split at h
    · rename_i hk
      cases h
      exact .inl ⟨rfl, hk⟩
    · rename_i hk
      exact .inr ⟨h, fun u' z => by
        cases z
        exact Bool.eq_false_iff.mpr hk⟩
theorem isTbl_at {o : HO} (h : isTbl o = true) : ∃ ps, o = .tbl ps := by
  cases o <;> first | exact ⟨_, rfl⟩ | cases h
theorem core_tabs (t : LamX.Tabs LamT.T H) : LamX.Tabs LamT.T (core B H) := fun p hp => by
  obtain ⟨ps, a1, a2, a3⟩ := t p hp
  refine ⟨ps, core_at a1 (by simp [isTbl]), a2, fun pos cv hcv => ?_⟩
  obtain ⟨c, e1, e2⟩ := a3 pos cv hcv
  exact ⟨c, e1, core_at e2 rfl⟩
theorem core_sub (e : Same B H) : Same (core B H) H := by
  have at_ : ∀ a o, core B H a = some o → isTbl o = false → H a = some o := fun a o h k => by
    rcases core_or0 h with z | z
    · exact z.1
    · exact e.at_ a o z.1 k
  have tb : ∀ a ps, core B H a = some (.tbl ps) → H a = some (.tbl ps) := fun a ps h => by
    rcases core_or0 h with z | z
    · exact z.1
    · obtain ⟨qs, q⟩ := e.tb a ps z.1
      have := z.2 _ q
      simp [isTbl] at this
  refine ⟨fun a o h k => at_ a o h k, fun a ps h => ⟨ps, tb a ps h⟩, fun t p hp => ?_⟩
  obtain ⟨ps, a1, a2, a3⟩ := t p hp
  refine ⟨ps, tb _ _ a1, a2, fun pos cv hcv => ?_⟩
  obtain ⟨c, e1, e2⟩ := a3 pos cv hcv
  exact ⟨c, e1, at_ _ _ e2 rfl⟩
theorem core_up (e : Same B H) : Same B (core B H) := by
  refine ⟨fun a o h k => ?_, fun a ps h => ?_, fun t => core_tabs (e.tabs t)⟩
  · have h1 := e.at_ a o h k
    unfold core
    rw [h1]
    dsimp only
    split
    · rfl
    · exact h
  · obtain ⟨qs, q⟩ := e.tb a ps h
    exact ⟨qs, core_at q (by simp [isTbl])⟩
theorem core_per : Per H (core B H) := fun a o h k => core_at h (by rw [k]; rfl)
theorem core_or (e : Same B H) {a : Addr} {o : HO} (h : core B H a = some o) (k : isTbl o = false) : B a = some o ∨ keeps o = true := by
  rcases core_or0 h with z | z
  · rw [k, Bool.or_false] at z
    exact .inr z.2
  · exact .inl z.1
theorem core_Up (e : Same B H) : Up B (core B H) := ⟨core_up e, fun _ _ h k => core_or e h k⟩
theorem SqB.up {p : Addr} {xs : List V} (u : Up B B') (e : Same B' H) (h : SqB K B' H p xs) : SqB K B H p xs := by
  rcases h with h | h
  · rcases h with (h | ⟨o, h⟩) | h
    · rcases u.2 _ _ h rfl with q | q
      · exact .inl (.inl (.inl q))
      · cases q
    · exact .inr ⟨o, e.at_ _ _ h⟩
    · exact .inl (.inr h)
  · exact .inr h
theorem RdB.up {p : Addr} {o : HO} (u : Up B B') (e : Same B' H) (k : keeps o = false) (kt : isTbl o = false) (h : RdB B' H p o) : RdB B H p o := by
  rcases h with (h | ⟨ob, h⟩) | h
  · rcases u.2 _ _ h kt with q | q
    · exact .inl (.inl q)
    · rw [k] at q
      cases q
  · exact .inr ⟨ob, e.at_ _ _ h⟩
  · exact .inr h
theorem Rel.down (R : Rel K B' H σ δ) (u : Up B B') (hx : XR.ok B ∧ SysK B) : Rel K B H σ δ := by
  refine ⟨u.1.trans R.same, hx, R.tabs, R.len, fun i s hs => ?_, R.apart⟩
  have h0 := R.at_ i s hs
  cases s with
  | any => trivial
  | dat d => exact h0
  | lst es =>
    obtain ⟨q, us, h1, h2, h3⟩ := h0
    exact ⟨q, us, h1, h2.up u R.same, h3⟩
  | own es =>
    obtain ⟨q, us, h1, h2, h3⟩ := h0
    exact ⟨q, us, h1, u.1.free h2, h3⟩
  | bag => exact h0
  | fn P => exact h0
  | lstD t es =>
    obtain ⟨q, us, h1, h2, h3⟩ := h0
    exact ⟨q, us, h1, h2.up u R.same h3.free.1 h3.free.2, h3⟩
  | ownD t es =>
    obtain ⟨q, us, h1, h2, h3⟩ := h0
    exact ⟨q, us, h1, u.1.free h2, h3⟩
theorem core_none {q : Addr} {o : HO} (h2 : B q = none) (h3 : H q = some o) (k : keeps o = false) (kt : isTbl o = false) : core B H q = none := by
  cases hz : core B H q with
  | none => rfl
  | some o =>
    rcases core_or0 hz with z | z
    · have z1 := z.1
      rw [h3] at z1
      cases z1
      have z2 := z.2
      rw [k, kt] at z2
      cases z2
    · have z1 := z.1
      rw [h2] at z1
      cases z1
theorem Rel.up (R : Rel K B H σ δ) : Rel K (core B H) H σ δ := by
  have e := R.same
  refine ⟨core_sub e, ⟨XR.mono _ _ (core_Up e) R.x.1, R.x.2.same (core_Up e).1⟩, R.tabs, R.len, fun i s hs => ?_, R.apart⟩
  have h0 := R.at_ i s hs
  cases s with
  | any => trivial
  | dat d => exact h0
  | lst es =>
    obtain ⟨q, us, h1, h2, h3⟩ := h0
    exact ⟨q, us, h1, h2.elim (fun z => .inl (sql_same (core_up e) z)) .inr, h3⟩
  | own es =>
    obtain ⟨q, us, h1, h2, h3, h4⟩ := h0
    refine ⟨q, us, h1, ?_, h3, h4⟩
    cases hz : core B H q with
    | none => rfl
    | some o =>
      rcases core_or0 hz with z | z
      · have z1 := z.1
        rw [h3] at z1
        cases z1
        exact Bool.noConfusion (show false = true from z.2)
      · have z1 := z.1
        rw [h2] at z1
        cases z1
  | bag => exact h0
  | fn P => exact h0
  | lstD t es =>
    obtain ⟨q, us, h1, h2, h3⟩ := h0
    refine ⟨q, us, h1, ?_, h3⟩
    rcases h2 with (z | ⟨ob, z⟩) | z
    · exact .inl (.inl ((core_up e).at_ _ _ z h3.free.2))
    · exact .inl (.inr ⟨ob, (core_up e).at_ _ _ z⟩)
    · exact .inr z
  | ownD t es =>
    obtain ⟨q, us, h1, h2, h3, h4⟩ := h0
    exact ⟨q, us, h1, core_none h2 h3 h4.free.1 h4.free.2, h3, h4⟩
theorem ResOk.up {v : V} {r : Res} (u : Up B B') (e : Same B' H) (h : ResOk K B' B' H v r) : ResOk K B B H v r := by
  cases r with
  | dat d => exact h
  | bor ds =>
    obtain ⟨p, vs, h1, h2, h3⟩ := h
    exact ⟨p, vs, h1, h2.up u e, h3⟩
  | len ds => exact h
  | fresh ds =>
    obtain ⟨p, vs, h1, h2, h3⟩ := h
    exact ⟨p, vs, h1, u.1.free h2, h3⟩
  | bag => exact h
  | borD t ds =>
    obtain ⟨p, vs, h1, h2, h3⟩ := h
    exact ⟨p, vs, h1, h2.up u e h3.free.1 h3.free.2, h3⟩
  | lenD t ds => exact h
  | freshD t ds =>
    obtain ⟨p, vs, h1, h2, h3⟩ := h
    exact ⟨p, vs, h1, u.1.free h2, h3⟩
theorem Cn.up {E : Ends} (C : Cn K B D E) (u : Up B B') (hx : XR.ok B ∧ SysK B) : Cn K B' D E :=
  ⟨fun σ H δ R h => C.nx σ H δ (R.down u hx) h, fun v H r e o h => C.rt v H r (u.1.trans e) (o.up u e) h, fun σ H δ R h => C.bk σ H δ (R.down u hx) h, fun σ H δ R h => C.ct σ H δ (R.down u hx) h⟩
/-- J walks ds while what G0 tells stands -/
def WalkOk (K : PySem.W.Frag) (G0 : Hp) (J : It) (ds : List PyData) : Prop := ∃ Y : Nat → Hp → V → Hp → Prop, Walk J ds.length (fun H => Same G0 H) Y ∧
  ∀ i H x H', i < ds.length → Same G0 H → Y i H x H' → Same H H' ∧ ∃ d, ds[i]? = some d ∧ Im K H' x d
theorem WalkOk.mono {J : It} {ds : List PyData} {G0 G1 : Hp} (e : Same G0 G1) (w : WalkOk K G0 J ds) : WalkOk K G1 J ds := by
  obtain ⟨Y, h1, h2⟩ := w
  exact ⟨Y, h1.mono (fun H h => e.trans h) (fun i H x H' _ _ y => y), fun i H x H' hi h y => h2 i H x H' hi (e.trans h) y⟩
/-- what a for walks -/
def ItL (K : PySem.W.Frag) (wi : TI) (δ : List Slot) (k : List PyData → Prop) : Prop :=
  ∀ (B H : Hp) (σ : St), Rel K B H σ δ → ∀ R : It → Hp → Prop, (∀ J H' ds, Same H H' → WalkOk K (core B H') J ds → k ds → R J H') → wi σ H R
/-- what a comprehension walks -/
def ItE (K : PySem.W.Frag) (wi : TI) (δ : List Slot) (k : List PyData → Prop) : Prop :=
  ∀ (B H : Hp) (σ : St), Rel K B H σ δ → ∀ R : It → Hp → Prop, (∀ J H' ds, Same H H' → WalkOk K H' J ds → k ds → R J H') → wi σ H R
theorem ItL.toE {wi : TI} {k : List PyData → Prop} (h : ItL K wi δ k) : ItE K wi δ k := fun B H σ R Rr q =>
  h B H σ R Rr fun J H' ds e w kd => q J H' ds e (w.mono (core_sub (R.same.trans e))) kd
/-- the loop over ds: I by the turn and its datum, the slots by the datum -/
def ForP (K : PySem.W.Frag) (ds : List PyData) (g : TG) (tb : TS) (nx : List Slot → Prop) (rt : Res → Prop) (δ : List Slot) : Prop :=
  ∃ (α : Type) (I : Nat → α → Prop) (δI : α → List Slot), (∃ a, I 0 a ∧ Wk δ (δI a)) ∧
    (∀ i a d, ds[i]? = some d → I i a → GS K g (.dat d) (δI a) fun δ' => SD K tb ⟨fun δ2 => ∃ a', I (i + 1) a' ∧ Wk δ2 (δI a'), rt, nx, fun δ2 => ∃ a', I (i + 1) a' ∧ Wk δ2 (δI a')⟩ δ') ∧
    ∀ a, I ds.length a → nx (δI a)
theorem sd_for {wi : TI} {g : TG} {tb : TS} (h : ItL K wi δ fun ds => ForP K ds g tb nx rt δ) : SD K (tFor wi g tb) ⟨nx, rt, bk, ct⟩ δ := by
  intro B H σ R E C
  refine h B H σ R _ fun J H1 ds e ⟨Y, w, y⟩ fp => ?_
  obtain ⟨α, I, δI, ⟨a0, i0, w0⟩, turn, fin⟩ := fp
  have R1 : Rel K (core B H1) H1 σ δ := (R.grow e).up
  have u : Up B (core B H1) := core_Up (R.same.trans e)
  have C1 := C.up u R.x
  refine for_it w (fun i σ' H' => ∃ a, I i a ∧ Rel K (core B H1) H' σ' (δI a)) ⟨a0, i0, R1.wk w0⟩ (fun i σ' H' _ ⟨a, _, R'⟩ => R'.same) ?_ fun σ' H' ⟨a, ia, R'⟩ => C1.nx _ _ _ R' (fin a ia)
  rintro i x σ' H' H2 hi ⟨a, ia, R'⟩ hy
  obtain ⟨e2, d, hd, im⟩ := y i H' x H2 hi R'.same hy
  refine turn i a d hd ia (core B H1) H' H2 σ' x R' e2 im _ fun σ3 H3 δ3 R3 _ sd => ?_
  refine sd (core B H1) H3 σ3 R3 _ ⟨?_, C1.rt, C1.nx, ?_⟩
  · rintro σ4 H4 δ4 R4 ⟨a', ia', wk⟩
    exact ⟨a', ia', R4.wk wk⟩
  · rintro σ4 H4 δ4 R4 ⟨a', ia', wk⟩
    exact ⟨a', ia', R4.wk wk⟩
theorem sd_while {tc : TT} {tb : TS} {α : Type} (I : α → Prop) (δI : α → List Slot) (μ : α → Nat) (h0 : ∃ a, I a ∧ Wk δ (δI a))
    (turn : ∀ a, I a → EvT K tc (δI a) fun b => Br b (SD K tb ⟨fun δ2 => ∃ a', (I a' ∧ μ a' < μ a) ∧ Wk δ2 (δI a'), rt, nx, fun δ2 => ∃ a', (I a' ∧ μ a' < μ a) ∧ Wk δ2 (δI a')⟩ (δI a)) (nx (δI a))) :
    SD K (tWhile tc tb) ⟨nx, rt, bk, ct⟩ δ := by
  intro B H σ R E C
  obtain ⟨a0, i0, w0⟩ := h0
  refine ⟨fun m σ' H' => ∃ a, I a ∧ μ a = m ∧ Rel K B H' σ' (δI a), ⟨μ a0, a0, i0, rfl, R.wk w0⟩, ?_⟩
  rintro m σ' H' ⟨a, ia, rfl, R'⟩
  refine turn a ia B H' σ' R' _ fun b H1 e p => ?_
  cases b with
  | true =>
    rw [if_pos rfl]
    refine ⟨fun σ2 H2 => ∃ a', I a' ∧ μ a' < μ a ∧ Rel K B H2 σ2 (δI a'), fun σ2 H2 ⟨a', h1, h2, h3⟩ => ⟨μ a', h2, a', h1, rfl, h3⟩, ?_⟩
    refine p.1 rfl B H1 σ' (R'.grow e) _ ⟨?_, C.rt, C.nx, ?_⟩
    · rintro σ4 H4 δ4 R4 ⟨a', ⟨h1, h2⟩, wk⟩
      exact ⟨a', h1, h2, R4.wk wk⟩
    · rintro σ4 H4 δ4 R4 ⟨a', ⟨h1, h2⟩, wk⟩
      exact ⟨a', h1, h2, R4.wk wk⟩
  | false =>
    rw [if_neg Bool.false_ne_true]
    exact C.nx _ _ _ (R'.grow e) (p.2 rfl)

/-! ## comprehensions -/
def wipeS (δ : List Slot) : List Nat → List Slot
  | [] => δ
  | v :: vs => (wipeS δ vs).set v .any
theorem wk_set : ∀ (δ : List Slot) (v : Nat), Wk δ (δ.set v .any)
  | [], _ => .nil
  | _ :: r, 0 => .any (Wk.refl r)
  | _ :: r, v + 1 => .same (wk_set r v)
theorem Rel.wipe1 {v : Nat} (R : Rel K B H σ δ) : Rel K B H (σ.set v none) (δ.set v .any) := by
  have R' := R.wk (wk_set δ v)
  refine ⟨R.same, R.x, R.tabs, by rw [List.length_set]; exact R'.len, fun i s hs => ?_, fun i j s t p hij hi hj si sj hpi => ?_⟩
  · by_cases hv : v = i
    · subst hv
      have hi : v < δ.length := by
        have := (List.getElem?_eq_some_iff.mp hs).1
        rwa [List.length_set] at this
      rw [List.getElem?_set_self hi] at hs
      cases hs
      trivial
    · rw [List.getElem?_set_ne hv]
      exact R'.at_ i s hs
  · have un : ∀ (m : Nat) (u : Slot), (δ.set v .any)[m]? = some u → isOwn u = true → v ≠ m := fun m u hm su z => by
      subst z
      have hl : v < δ.length := by
        have := (List.getElem?_eq_some_iff.mp hm).1
        rwa [List.length_set] at this
      rw [List.getElem?_set_self hl] at hm
      cases hm
      cases su
    rw [List.getElem?_set_ne (un i s hi si)] at hpi
    rw [List.getElem?_set_ne (un j t hj sj)]
    exact R'.apart i j s t p hij hi hj si sj hpi
theorem Rel.wipe (R : Rel K B H σ δ) : ∀ vs : List Nat, Rel K B H (L2.wipe σ vs) (wipeS δ vs)
  | [] => R
  | v :: vs => (R.wipe vs).wipe1
theorem wipe_get {σ : St} {i : Nat} : ∀ {vs : List Nat}, i ∈ vs → i < σ.length → (L2.wipe σ vs)[i]? = some none
  | [], h, _ => absurd h List.not_mem_nil
  | v :: vs, h, hl => by
    show ((L2.wipe σ vs).set v none)[i]? = some none
    by_cases hv : v = i
    · subst hv
      rw [List.getElem?_set_self (by rw [wipe_length]; exact hl)]
    · rw [List.getElem?_set_ne hv]
      rcases List.mem_cons.mp h with z | z
      · exact absurd z.symm hv
      · exact wipe_get z hl
theorem wipe_keep {σ : St} {i : Nat} : ∀ {vs : List Nat}, i ∉ vs → (L2.wipe σ vs)[i]? = σ[i]?
  | [], _ => rfl
  | v :: vs, h => by
    show ((L2.wipe σ vs).set v none)[i]? = _
    rw [List.getElem?_set_ne fun z => h (by rw [z]; exact List.mem_cons_self)]
    exact wipe_keep fun z => h (List.mem_cons_of_mem _ z)
theorem wipe_eq {σ σ2 : St} {vs : List Nat} (hl : σ2.length = (L2.wipe σ vs).length) (h : ∀ i, ¬ i ∈ vs → σ2[i]? = (L2.wipe σ vs)[i]?) : L2.wipe σ2 vs = L2.wipe σ vs := by
  refine List.ext_getElem? fun i => ?_
  rw [wipe_length] at hl
  by_cases hi : i ∈ vs
  · by_cases hlt : i < σ.length
    · rw [wipe_get hi hlt, wipe_get hi (by rw [hl]; exact hlt)]
    · rw [List.getElem?_eq_none (by rw [wipe_length]; omega), List.getElem?_eq_none (by rw [wipe_length]; omega)]
  · rw [wipe_keep hi, h i hi]
/-- the comprehension over ds -/
def LcP (K : PySem.W.Frag) (ds : List PyData) (g : TG) (tt : TT) (te : TE) (vs : List Nat) (δ : List Slot) (k : Res → Prop) : Prop :=
  ∃ I : Nat → List PyData → Prop, I 0 [] ∧ ds.length ≤ 1000000 ∧
    (∀ i d acc, ds[i]? = some d → I i acc → GE K g (.dat d) (wipeS δ vs) (fun j => j ∈ vs) fun δ' => EvT K tt δ' fun b => Br b (EvC K te δ' fun r => ∃ e, r = .dat e ∧ I (i + 1) (acc ++ [e])) (I (i + 1) acc)) ∧
    ∀ out, I ds.length out → k (.fresh out)
theorem ec_lc {wi : TI} {g : TG} {tt : TT} {vs : List Nat} {k : Res → Prop} (h : ItE K wi δ fun ds => LcP K ds g tt te vs δ k) : EvC K (tLc wi g tt te vs) δ k := by
  intro B H σ R Q q
  refine h B H σ R _ fun J H1 ds e ⟨Y, w, y⟩ lp => ?_
  obtain ⟨I, i0, hz, turn, fin⟩ := lp
  intro a ha
  refine lc_it w (fun i H' => ∃ acc us, I i acc ∧ H' a = some (.lst us) ∧ ImAll K H' us acc ∧ Same H1 H' ∧ acc.length ≤ i) ⟨[], [], i0, upd_same, .nil, same_new ha, Nat.le_refl _⟩ (fun i H' _ ⟨_, _, _, _, _, s, _⟩ => s) ?_ ?_
  · rintro i x H' H2 hi ⟨acc, us, ia, hD, im, s, hl⟩ hy
    obtain ⟨e2, d, hd, ix⟩ := y i H' x H2 hi s hy
    have R' : Rel K B H' (L2.wipe σ vs) (wipeS δ vs) := (R.grow (e.trans s)).wipe vs
    refine turn i d acc hd ia B H' H2 _ x R' e2 ix _ fun σ3 δ3 R3 hl3 hw3 et => ?_
    refine ⟨wipe_eq hl3 hw3, et B H2 σ3 R3 _ fun b H3 e3 p => ?_⟩
    have hD3 := e3.at_ _ _ (e2.at_ _ _ hD)
    have s3 := (s.trans e2).trans e3
    have im3 := im.to (per_same (e2.trans e3))
    cases b with
    | true =>
      rw [if_pos rfl]
      refine p.1 rfl B H3 σ3 (R3.grow e3) _ fun v H4 r e4 o ⟨z, hr, iz⟩ => ?_
      subst hr
      have hD4 := e4.at_ _ _ hD3
      have per : Per H4 (upd H4 a (.lst (us ++ [v]))) := per_upd hD4 rfl
      refine ⟨us, hD4, by rw [im.length]; exact Nat.lt_of_le_of_lt (Nat.le_trans hl (Nat.le_of_lt (Nat.lt_of_lt_of_le hi hz))) (by decide), acc ++ [z], us ++ [v], iz, upd_same, ((im3.to (per_same e4)).append (.one o)).to per, same_lst (s3.trans e4) ha hD4, ?_⟩
      · rw [List.length_append]
        exact Nat.succ_le_succ hl
    | false =>
      rw [if_neg Bool.false_ne_true]
      exact ⟨acc, us, p.2 rfl, hD3, im3, s3, Nat.le_succ_of_le hl⟩
  · rintro H' ⟨acc, us, ia, hD, im, s, hl⟩
    exact q _ H' _ (e.trans s) (rFresh (e.free ha) hD im) (fin acc ia)
end
end Dl

/-! own layer, defs and calls, repr, what is walked, the end -/
namespace Dl
variable [LamT]
open PySem PySem.Spec L2

/-! ## defs, where no guard stands around -/
structure FnG (P : Program) (w : World) (K : PySem.W.Frag) (mg : Str → Option Value) (base : Heap) (CX : CXT) (n : Nat) (f : Addr) (fd : FuncData) (ps : List Str) (sp : Sp) : Prop where
  len : ∀ vs H Q E, sp vs H Q E → vs.length = ps.length
  run : ∀ (A : Around) (outer : List Env) (s : Shared) (H : Hp) (args : Args) (us : List Value) (vs : List V) (Q : VK) (E : XK), A.guards = some [] → Room n A →
    Env0 P w K mg base A outer s H → BindsTo s fd args (ps.zip us) → Vals vs us → sp vs H Q E → codeAny (model P w) A (.call (.ref f) args) (CR CX outer P w H s Q E) s
section
variable {P : Program} {w : World} {K : PySem.W.Frag} {mg : Str → Option Value} {base : Heap} {CX : CXT}
theorem FnG.mono {i j : Nat} {f : Addr} {fd : FuncData} {ps : List Str} {sp : Sp} (F : FnG P w K mg base CX i f fd ps sp) (h : i ≤ j) : FnG P w K mg base CX j f fd ps sp :=
  ⟨F.len, fun A outer s H args us vs Q E hg hr => F.run A outer s H args us vs Q E hg (hr.mono h)⟩
theorem Fun.okG {x qual : Str} {st : Stmt} {f : Addr} {fd : FuncData} {N ps : List Str} {n : Nat} {sp : Sp} (F : Fun K x qual st f fd) (S : FnScope N ps (defScope st)) (hlen : ∀ vs H Q E, sp vs H Q E → vs.length = ps.length)
    (body : ∀ (cdv : Value) (A : Around) (outer : List Env) (s : Shared) (H : Hp) (vs : List V) (Q : VK) (E : XK), A.guards = some [] → Room n (A.deeper (PyProof.Rows.envOfC qual (defScope st) s.heap.objs.size f cdv)) → sp vs H Q E →
      ∃ t, PSs (cxOf CX P w K mg base N qual (defScope st) f cdv A outer s H E) (defBody st) t ∧ t { nx := fun _ H' => Q .non H', rt := Q } (start N vs) H) : FnG P w K mg base CX (n + 1) f fd ps sp := by
  obtain ⟨oc, od, kV, doc, pm, an, cdv, ct, osl, rfl, lk, hcd⟩ := F.ex
  refine ⟨hlen, fun A outer s H args us vs Q E hg hr e0 hb rv hs => ?_⟩
  have nvs := hlen _ _ _ _ hs
  have kin : K.In s.heap := e0.mod.kin.keeps fun b o q => (e0.bs b o q).1
  have nolim : s.heap.NoLimit := e0.mod.nolimit.keeps fun b o q => (e0.bs b o q).1
  have kinds : ∀ y ∈ ps.zip us, (defScope st).names.lookup y.1 = some .local ∨ ((defScope st).names.lookup y.1 = some .cell ∧ ((cellsFrom (s.heap.objs.size + 1) (defScope st).names []).lookup y.1).isSome = true) := by
    rintro ⟨m, v⟩ hy
    rcases S.par m (List.of_mem_zip hy).1 with q | q
    · exact .inl q
    · exact .inr ⟨q, PySem.W.cellsFrom_some _ _ _ (.inl q)⟩
  refine codeAny_call_function hr.depth (kin _ _ lk) rfl S.co S.gen rfl (PySem.W.codeRec_of kin hcd) (hb _ _ _ _ ?_)
  refine wpAny_newFunctionEnv_cells S.kind kinds fun env henv s1 icc => ?_
  subst henv
  refine ⟨nolim.keeps icc.toInCall.keep, codeAny_func ?_⟩
  obtain ⟨t, pt, ht⟩ := body cdv A outer s H vs Q E hg (hr.deeper _) hs
  have I0 : Inv (cxOf CX P w K mg base N qual (defScope st) f cdv A outer s H E) [] (start N vs) H s1 := inv_start S hr.hd e0 nvs rv icc
  have back : ∀ {σ' : L2.St} {H' : Hp} {v : V} {u : Value} {s' : Shared}, Inv (cxOf CX P w K mg base N qual (defScope st) f cdv A outer s H E) [] σ' H' s' → RelV v u → Q v H' → CE outer P w H s Q u s' :=
    fun {σ' H' v u s'} J rel q => ⟨v, H', J.os, J.bare, J.base, J.hok, rel, q⟩
  refine wpAny_mono (pt.run [] s1 (start N vs) H _ I0 ht) (fun fl s' hs' => ?_) fun _ _ z => z
  match fl, hs' with
  | .ret u, ⟨v, σ', H', J, rel, q⟩ => exact back J rel q
  | .next, ⟨σ', H', J, q⟩ => exact back (v := V.non) (u := Value.none) J rfl q
  | .brk, ⟨_, _, _, q⟩ => exact q.elim
  | .cont, ⟨_, _, _, q⟩ => exact q.elim
end
section
variable {X : Cx} {CX : CXT} {n : Nat} {f : Addr} {fd : FuncData} {ps : List Str} {sp : Sp} {dvs : List V} {ds : List Value} {E : XK} {x : Str} {p pos : Pos} {e : Expr} {es : List Expr} {t : TA}
theorem run_g {pins : List (Addr × Obj)} {σ : L2.St} {H : Hp} {s : Shared} {Q : VK} {us : List Value} {vs : List V} (F : FnG X.prog X.w X.K X.mg X.base CX n f fd ps sp) (hG : X.A.guards = some []) (hr : Room n X.A) (hb : Binds X.K fd ps ds) (hd : Vals dvs ds) (hx : Passes CX X E)
    (I : Inv X pins σ H s) (rv : Vals vs us) (h : sp (vs ++ dvs) H Q E) : wpAny (model X.prog X.w) X.A (call (.ref f) us) (EP X pins σ Q) X.xe s := by
  have r2 := rv.append hd
  have nn : (us ++ ds).length = ps.length := r2.length.symm.trans (F.len _ _ _ _ h)
  refine wpAny_call (codeAny_mono (F.run X.A X.stack s H ⟨us, []⟩ (us ++ ds) (vs ++ dvs) Q E hG hr I.env0 (hb s us I.kIn nn) r2 h) fun r s' hq => ?_)
  match r, hq with
  | .error z, hq => exact hx pins σ H s z s' I hq
  | .ok (.ret u), hq => exact I.after hq
/-- f(e, ..), f a def of the text -/
theorem pe_g (F : FnG X.prog X.w X.K X.mg X.base CX n f fd ps sp) (hG : X.A.guards = some []) (hr : Room n X.A) (hm : X.mg x = some (.ref f)) (hk : PySem.W.keepIn X.K (.ref f) = true) (hb : Binds X.K fd ps ds) (hd : Vals dvs ds) (hx : Passes CX X E)
    (ha : PA X (e :: es) t) (hg : Gl X x := by rfl) (hdb : (x == ("__debug__" : Str)) = false := by decide) (he : starEach (e :: es) X.env = (false, eval e X.env) :: starEach es X.env := by rfl) (hpl : (backTo pos (starEach es X.env)).any (·.1) = false := by rfl) :
    PE X (.Call (.Name x p) (e :: es) [] pos) (tCall sp dvs E t) := by
  refine ⟨fun pins s σ H Q I h => ?_⟩
  refine wpAny_Call_Name_kw (ld_glob I hg hm ?_ hdb)
  exact PySem.W.callWith_K (h₀ := X.base) I.ok.mod.kin hk (thn (ha.run pos pins s σ H _ I h) fun us s1 ⟨vs, H1, I1, rv, q⟩ => ⟨I1.kIn, run_g F hG hr hb hd hx I1 rv q⟩) he hpl
end

/-! ## promises over abstract data -/
def ArgOk (K : PySem.W.Frag) (H : Hp) (v : V) : Res → Prop
  | .dat d => Im K H v d
  | .bor ds => ∃ p vs, v = .ref p ∧ SqL K H p vs ∧ ImAll K H vs ds
  | .bag => ∃ p, v = .ref p ∧ Bag H p
  | .borD t ds => ∃ p ob, v = .ref p ∧ Rd H p ob ∧ DicIs K H t ob ds
  | _ => False
inductive ArgsP (K : PySem.W.Frag) (H : Hp) : List V → List Res → Prop
  | nil : ArgsP K H [] []
  | cons {v : V} {vs : List V} {r : Res} {rs : List Res} : ArgOk K H v r → ArgsP K H vs rs → ArgsP K H (v :: vs) (r :: rs)
def argR : Res → Res
  | .len ds => .bor ds
  | .fresh ds => .bor ds
  | .lenD t ds => .borD t ds
  | .freshD t ds => .borD t ds
  | x => x
def isRet : Res → Bool
  | .dat _ => true
  | .fresh _ => true
  | .bag => true
  | .freshD _ _ => true
  | _ => false
abbrev ASp := List Res → (Res → Prop) → Prop
def spOf (K : PySem.W.Frag) (sp : ASp) : Sp := fun vs H Q _ => ∃ rs k, (ArgsP K H vs rs ∧ LamX.Tabs LamT.T H ∧ SysK H) ∧ sp rs k ∧ ∀ v H' r, Same H H' → isRet r = true → ResOk K H H H' v r → k r → Q v H'
def argSlot : Res → Slot
  | .dat d => .dat d
  | .bor ds => .lst ds
  | .bag => .bag
  | .borD t ds => .lstD t ds
  | _ => .any
def entry (N : List Str) (rs : List Res) : List Slot := rs.map argSlot ++ List.replicate (N.length - rs.length) .any
section
variable [XR] {K : PySem.W.Frag} {B H H' : Hp} {δ : List Slot}
omit [XR] in
theorem ArgsP.length {vs : List V} {rs : List Res} (h : ArgsP K H vs rs) : vs.length = rs.length := by
  induction h with
  | nil => rfl
  | cons _ _ ih => simp [ih]
omit [XR] in
theorem args_to {H0 : Hp} (e : Same B H') : ∀ {vs : List V} {rs : List Res}, ArgsOk K B H0 H' vs rs → (∀ r ∈ rs, True) → ArgsP K H' vs (rs.map argR)
  | _, _, .nil, _ => .nil
  | _, _, .cons (r := r) h1 h2, h => by
    refine .cons ?_ (args_to e h2 fun _ _ => trivial)
    cases r with
    | dat d => exact h1
    | bor ds =>
      obtain ⟨p, vs, rfl, h3, h4⟩ := h1
      exact ⟨p, vs, rfl, h3.seq e, h4⟩
    | len ds =>
      obtain ⟨p, vs, rfl, h3, h4⟩ := h1
      exact ⟨p, vs, rfl, SqL.of h3, h4⟩
    | fresh ds =>
      obtain ⟨p, vs, rfl, _, h3, h4⟩ := h1
      exact ⟨p, vs, rfl, SqL.of h3, h4⟩
    | bag => exact h1
    | borD t ds =>
      obtain ⟨p, ob, rfl, h3, h4⟩ := h1
      exact ⟨p, ob, rfl, h3.rd e h4.free.2, h4⟩
    | lenD t ds =>
      obtain ⟨p, ob, rfl, h3, h4⟩ := h1
      exact ⟨p, ob, rfl, .inl h3, h4⟩
    | freshD t ds =>
      obtain ⟨p, ob, rfl, _, h3, h4⟩ := h1
      exact ⟨p, ob, rfl, .inl h3, h4⟩
theorem ec_call {sp : ASp} {E : XK} {ta : TA} {k : Res → Prop} (h : EvA K ta δ fun rs => sp (rs.map argR) k) : EvC K (tCall (spOf K sp) [] E ta) δ k := by
  intro B H σ R Q q
  refine h B H σ R _ fun vs H1 rs e o hs => ?_
  rw [List.append_nil]
  refine ⟨_, k, ⟨args_to (R.same.trans e) o fun _ _ => trivial, e.tabs R.tabs, R.x.2.same (R.same.trans e)⟩, hs, fun v H2 r e2 hr ho hk => ?_⟩
  refine q v H2 r (e.trans e2) ?_ hk
  cases r with
  | dat d => exact ho
  | bor ds => cases hr
  | len ds => cases hr
  | fresh ds =>
    obtain ⟨p, us, h1, h2, h3⟩ := ho
    exact ⟨p, us, h1, e.free h2, h3⟩
  | bag => exact ho
  | borD t ds => cases hr
  | lenD t ds => cases hr
  | freshD t ds =>
    obtain ⟨p, us, h1, h2, h3⟩ := ho
    exact ⟨p, us, h1, e.free h2, h3⟩
omit [XR] in
theorem argSlot_ok {v : V} {r : Res} (h : ArgOk K H v r) : SlotOk K H H (some v) (argSlot r) := by
  cases r with
  | dat d => exact ⟨v, rfl, h⟩
  | bor ds =>
    obtain ⟨p, vs, rfl, h1, h2⟩ := h
    exact ⟨p, vs, rfl, .inl h1, h2⟩
  | len ds => cases h
  | fresh ds => cases h
  | bag =>
    obtain ⟨p, rfl, h1⟩ := h
    exact ⟨p, rfl, h1⟩
  | borD t ds =>
    obtain ⟨p, vs, rfl, h1, h2⟩ := h
    exact ⟨p, vs, rfl, .inl h1, h2⟩
  | lenD t ds => cases h
  | freshD t ds => cases h
omit [XR] in
theorem noown {r : Res} : isOwn (argSlot r) = false := by cases r <;> rfl
omit [XR] in
theorem args_at : ∀ {vs : List V} {rs : List Res} {i : Nat} {s : Slot}, ArgsP K H vs rs → (rs.map argSlot)[i]? = some s → ∃ v, vs[i]? = some v ∧ SlotOk K H H (some v) s ∧ isOwn s = false
  | _, _, _, _, .nil, e => by simp at e
  | _, _, 0, _, .cons h1 _, e => by
    simp at e
    subst e
    exact ⟨_, rfl, argSlot_ok h1, noown⟩
  | _, _, i + 1, _, .cons _ h2, e => args_at (i := i) h2 (by simpa using e)
theorem rel_start {N : List Str} {vs : List V} {rs : List Res} (h0 : ArgsP K H vs rs ∧ LamX.Tabs LamT.T H ∧ SysK H) (hx : XR.ok H) : Rel K H H (start N vs) (entry N rs) := by
  obtain ⟨h, ht, hk⟩ := h0
  have hl := h.length
  have key : ∀ (i : Nat) (s : Slot), (entry N rs)[i]? = some s → SlotOk K H H ((start N vs)[i]?.join) s ∧ isOwn s = false := by
    intro i s hs
    unfold entry at hs
    by_cases hi : i < rs.length
    · rw [List.getElem?_append_left (by simpa using hi)] at hs
      obtain ⟨v, h1, h2, h3⟩ := args_at h hs
      refine ⟨?_, h3⟩
      unfold L2.start
      rw [List.getElem?_append_left (by rw [List.length_map, hl]; exact hi), List.getElem?_map, h1]
      exact h2
    · rw [List.getElem?_append_right (by simpa using hi), List.getElem?_replicate] at hs
      split at hs
      · cases hs
        exact ⟨trivial, rfl⟩
      · cases hs
  refine ⟨Same.refl H, ⟨hx, hk⟩, ht, ?_, fun i s hs => (key i s hs).1, fun i j s t p _ hi _ si _ => ?_⟩
  · unfold L2.start entry
    rw [List.length_append, List.length_append, List.length_map, List.length_map, List.length_replicate, List.length_replicate, hl]
  · rw [(key i s hi).2] at si
    cases si
end
/-- a def's promise, by its body over abstract slots -/
theorem fn_ok {P : Program} {w : World} {K : PySem.W.Frag} {mg : Str → Option Value} {base : Heap} {x qual : Str} {st : Stmt} {f : Addr} {fd : FuncData} {N ps : List Str} {n : Nat} {sp : ASp} (F : Fun K x qual st f fd) (S : FnScope N ps (defScope st))
    (hlen : ∀ rs k, sp rs k → rs.length = ps.length)
    (body : ∀ (cdv : Value) (A : Around) (outer : List Env) (s : Shared) (H : Hp) (E : XK) (rs : List Res) (k : Res → Prop), A.guards = some [] → Room n (A.deeper (PyProof.Rows.envOfC qual (defScope st) s.heap.objs.size f cdv)) → sp rs k →
      ∃ t, PSs (cxOf CX0 P w K mg base N qual (defScope st) f cdv A outer s H E).nox (defBody st) t ∧ SD K t { nx := fun _ => k (.dat .none), rt := fun r => isRet r = true ∧ k r } (entry N rs)) : FnG P w K mg base CX0 (n + 1) f fd ps (spOf K sp) := by
  refine Fun.okG F S (fun vs H Q E h => ?_) fun cdv A outer s H vs Q E hg hr h => ?_
  · obtain ⟨rs, k, h1, h2, _⟩ := h
    rw [h1.1.length]
    exact hlen rs k h2
  · obtain ⟨rs, k, h1, h2, h3⟩ := h
    obtain ⟨t, pt, sd⟩ := body cdv A outer s H E rs k hg hr h2
    refine ⟨t, pt.nox, sd H H _ (rel_start h1 trivial) _ ⟨fun σ H' δ R hk => h3 _ _ _ R.same rfl rNon hk, fun v H' r e o hk => h3 v H' r e hk.1 o hk.2, fun _ _ _ _ z => z.elim, fun _ _ _ _ z => z.elim⟩⟩

/-! ## repr -/
def bRepr (K : PySem.W.Frag) : List V → Hp → VK → Prop := fun xs H Q => ∃ x d, xs = [x] ∧ Dp K H x d ∧ d.showable = true ∧ d.shown.length ≤ sizeLine ∧ d.depth ≤ 60 ∧ Q (.str d.shown) H
mutual
theorem dp_nodict {K : PySem.W.Frag} {H : Hp} : ∀ (d : PyData) (v : V), Dp K H v d → d.hasDict = false
  | .none, _, _ => by simp only [PyData.hasDict]
  | .bool _, _, _ => by simp only [PyData.hasDict]
  | .int _, _, _ => by simp only [PyData.hasDict]
  | .str _, _, _ => by simp only [PyData.hasDict]
  | .list ds, _, h => by
    cases h with
    | lst _ h2 =>
      simp only [PyData.hasDict]
      exact dpAll_nodict ds _ h2
  | .tuple ds, _, h => by
    cases h with
    | tup _ h2 =>
      simp only [PyData.hasDict]
      exact dpAll_nodict ds _ h2
  | .dict _, _, h => by cases h
theorem dpAll_nodict {K : PySem.W.Frag} {H : Hp} : ∀ (ds : List PyData) (vs : List V), DpAll K H vs ds → PyData.hasDictAll ds = false
  | [], _, _ => by simp only [PyData.hasDictAll]
  | d :: ds, _, h => by
    cases h with
    | cons h1 h2 => simp only [PyData.hasDictAll, dp_nodict d _ h1, dpAll_nodict ds _ h2, Bool.or_self]
end
theorem cRepr {X : Cx} (hG : X.A.guards = some []) (hu : X.A.units + 64 < cLine) : CallR X (.builtin "repr") (bRepr X.K) := by
  intro pins s σ H xs us Q I r h
  obtain ⟨x, d, rfl, hd, hs, hz, hp, q⟩ := h
  obtain ⟨u, rfl, rx⟩ := vals1 r
  have nd := dp_nodict d x hd
  obtain ⟨as, rd⟩ := Dp.reads I d x u hd rx
  cases hd with
  | non =>
    cases rx
    refine PySem.P.repr_of_none ⟨.str _, H, I.tok _, ⟨_, rfl⟩, ?_⟩
    simp only [PyData.shown] at q
    exact q
  | bl b =>
    cases rx
    refine PySem.P.repr_of_bool ⟨.str _, H, I.tok _, ⟨_, rfl⟩, ?_⟩
    simp only [PyData.shown] at q
    exact q
  | int i =>
    obtain ⟨t, rfl⟩ := rx
    refine PySem.P.repr_of_int (by simpa [PyData.showable] using hs) ⟨.str _, H, I.tok _, ⟨_, rfl⟩, ?_⟩
    simp only [PyData.shown] at q
    exact q
  | str z =>
    obtain ⟨t, rfl⟩ := rx
    refine PySem.P.repr_of_str (hsz := by simpa only [PyData.shown] using hz) ⟨.str _, H, I.tok _, ⟨_, rfl⟩, ?_⟩
    simp only [PyData.shown] at q
    exact q
  | lst _ _ =>
    cases rx
    exact repr_of_reads' rd hs (PyData.noDict_hsm nd) hG (by omega) (fun _ _ e => e) (fun h' u' tk hk => ⟨.str _, H, I.kept hk, ⟨_, rfl⟩, q⟩) hz
  | tup _ _ =>
    cases rx
    exact repr_of_reads' rd hs (PyData.noDict_hsm nd) hG (by omega) (fun _ _ e => e) (fun h' u' tk hk => ⟨.str _, H, I.kept hk, ⟨_, rfl⟩, q⟩) hz
/-- data whose text is short enough -/
structure Tells (d : PyData) : Prop where
  showable : d.showable = true
  short : d.shown.length ≤ sizeLine
  shaped : SeqAt.shaped d = true
  flat : d.depth ≤ 60
inductive ReprP : List Res → (Res → Prop) → Prop
  | mk {x : Res} {d : PyData} {k : Res → Prop} : x.data = some d → Tells d → k (.dat (.str d.shown)) → ReprP [x] k
theorem cbRepr [XR] {K : PySem.W.Frag} : CbOk K (bRepr K) ReprP := by
  intro B H H1 vs rs k Q e0 e1 o p q
  cases p with
  | mk hx ht g =>
    cases o with
    | cons o1 o2 =>
      cases o2
      exact ⟨_, _, rfl, o1.dp (e0.trans e1) hx (nd_of_shaped ht.shaped), ht.showable, ht.short, ht.flat, q _ _ _ (Same.refl _) rStr g⟩

/-! ## what is walked -/
section
variable {X : Cx} {tg : Expr}
def iSeq (K : PySem.W.Frag) (tl : TE) : TI := fun σ H R => tl σ H fun x H1 => (∃ a, x = .ref a ∧ (∃ xs, SqL K H1 a xs) ∧ R (Itl K a) H1) ∨ (∃ a, x = .ref a ∧ (∃ xs, SqT K H1 a xs) ∧ R (Itt K a) H1)
theorem pi_seq {l : Expr} {tl : TE} (hl : PE X l tl) : PI X tg l (iSeq X.K tl) := by
  refine ⟨fun pins s σ H R I h => ?_⟩
  refine thn (hl.run pins s σ H _ I h) fun v s1 ⟨x, H1, I1, r1, q1⟩ => ?_
  rcases q1 with ⟨a, rfl, ⟨xs, hq⟩, q⟩ | ⟨a, rfl, ⟨xs, hq⟩, q⟩
  · cases r1
    obtain ⟨its, _, pl, _⟩ := I1.list hq
    exact wpAny_pyIter_list pl.isList (pi_one (tk := s1.toks) I1 _ (turn_list a _) ⟨_, Heap.get?_push_size _ rfl, rfl, rfl⟩ q)
  · cases r1
    obtain ⟨its, _, pl, _⟩ := I1.tuple hq
    exact wpAny_pyIter_tuple (show s1.heap.IsTuple a its.toArray from pl) (pi_one (tk := s1.toks) I1 _ (turn_tuple a _) ⟨_, Heap.get?_push_size _ rfl, rfl, rfl⟩ q)
end
section
variable [XR] {K : PySem.W.Frag} {δ : List Slot}
theorem walk_l {G0 : Hp} {a : Addr} {xs : List V} {ds : List PyData} (h : SqL K G0 a xs) (im : ImAll K G0 xs ds) : WalkOk K G0 (Itl K a) ds := by
  refine ⟨YAt xs, ?_, fun i H x H' hi e y => ?_⟩
  · have w := (walk_list (K := K) (a := a) (xs := xs)).mono (G' := fun H => Same G0 H) (fun H e => sql_same e h) (fun i H x H' _ _ y => y)
    rw [im.length] at w
    exact w
  · obtain ⟨rfl, hx⟩ := y
    obtain ⟨d, h1, h2⟩ := im.getV hx
    exact ⟨Same.refl _, d, h1, h2.to (per_same e)⟩
theorem walk_t {G0 : Hp} {a : Addr} {xs : List V} {ds : List PyData} (h : SqT K G0 a xs) (im : ImAll K G0 xs ds) : WalkOk K G0 (Itt K a) ds := by
  refine ⟨YAt xs, ?_, fun i H x H' hi e y => ?_⟩
  · have w := (walk_tup (K := K) (a := a) (xs := xs)).mono (G' := fun H => Same G0 H) (fun H e => sqt_per (per_same e) h) (fun i H x H' _ _ y => y)
    rw [im.length] at w
    exact w
  · obtain ⟨rfl, hx⟩ := y
    obtain ⟨d, h1, h2⟩ := im.getV hx
    exact ⟨Same.refl _, d, h1, h2.to (per_same e)⟩
/-- what stands by itself: for a loop whose body may write lists -/
def Res.still : Res → Option (List PyData)
  | .dat (.list ds) => some ds
  | .dat (.tuple ds) => some ds
  | .bor ds => some ds
  | _ => none
def Res.walked : Res → Option (List PyData)
  | .dat (.list ds) => some ds
  | .dat (.tuple ds) => some ds
  | .bor ds => some ds
  | .len ds => some ds
  | .fresh ds => some ds
  | _ => none
theorem sqb_core {B H : Hp} {p : Addr} {xs : List V} (e : Same B H) (h : SqB K B H p xs) : SqL K (core B H) p xs := h.elim (fun z => sql_same (core_up e) z) fun z => (z.per core_per).seq
theorem itl_seq {tl : TE} {k : List PyData → Prop} (h : EvC K tl δ fun x => ∃ ds, x.still = some ds ∧ k ds) : ItL K (iSeq K tl) δ k := by
  intro B H σ R Rr q
  refine h B H σ R _ fun v H1 x e o ⟨ds, hx, hk⟩ => ?_
  have e1 := R.same.trans e
  cases x with
  | dat d =>
    cases d <;> cases hx
    · cases o with
      | lst h1 h2 => exact .inl ⟨_, rfl, ⟨_, h1.seq⟩, q _ H1 _ e (walk_l (h1.per core_per).seq (h2.to core_per)) hk⟩
    · cases o with
      | tup h1 h2 => exact .inr ⟨_, rfl, ⟨_, h1⟩, q _ H1 _ e (walk_t (sqt_per core_per h1) (h2.to core_per)) hk⟩
  | bor es =>
    cases hx
    obtain ⟨p, vs, rfl, h1, h2⟩ := o
    exact .inl ⟨p, rfl, ⟨_, h1.seq e1⟩, q _ H1 _ e (walk_l (sqb_core e1 h1) (h2.to core_per)) hk⟩
  | len es => cases hx
  | fresh es => cases hx
  | _ => cases hx
theorem ite_seq {tl : TE} {k : List PyData → Prop} (h : EvC K tl δ fun x => ∃ ds, x.walked = some ds ∧ k ds) : ItE K (iSeq K tl) δ k := by
  intro B H σ R Rr q
  refine h B H σ R _ fun v H1 x e o ⟨ds, hx, hk⟩ => ?_
  have e1 := R.same.trans e
  cases x with
  | dat d =>
    cases d <;> cases hx
    · cases o with
      | lst h1 h2 => exact .inl ⟨_, rfl, ⟨_, h1.seq⟩, q _ H1 _ e (walk_l h1.seq h2) hk⟩
    · cases o with
      | tup h1 h2 => exact .inr ⟨_, rfl, ⟨_, h1⟩, q _ H1 _ e (walk_t h1 h2) hk⟩
  | bor es =>
    cases hx
    obtain ⟨p, vs, rfl, h1, h2⟩ := o
    exact .inl ⟨p, rfl, ⟨_, h1.seq e1⟩, q _ H1 _ e (walk_l (h1.seq e1) h2) hk⟩
  | len es =>
    cases hx
    obtain ⟨p, vs, rfl, h1, h2⟩ := o
    exact .inl ⟨p, rfl, ⟨_, SqL.of h1⟩, q _ H1 _ e (walk_l (SqL.of h1) h2) hk⟩
  | fresh es =>
    cases hx
    obtain ⟨p, vs, rfl, _, h1, h2⟩ := o
    exact .inl ⟨p, rfl, ⟨_, SqL.of h1⟩, q _ H1 _ e (walk_l (SqL.of h1) h2) hk⟩
  | _ => cases hx
/-- lo, lo + 1, .. -/
def rgD (lo : Int) (n : Nat) : List PyData := (List.range n).map fun i => .int (lo + (i : Nat))
theorem rgD_len {lo : Int} {n : Nat} : (rgD lo n).length = n := by unfold rgD; rw [List.length_map, List.length_range]
theorem rgD_get {lo : Int} {n i : Nat} (h : i < n) : (rgD lo n)[i]? = some (.int (lo + (i : Nat))) := by
  unfold rgD
  rw [List.getElem?_map, List.getElem?_range h]
  rfl
theorem walk_r {G0 : Hp} {lo : Int} {n : Nat} : WalkOk K G0 (Itr lo n) (rgD lo n) := by
  refine ⟨YFn fun i => .int (lo + (i : Nat)), ?_, fun i H x H' hi e y => ?_⟩
  · have w := (walk_range (lo := lo) (n := n)).mono (G' := fun H => Same G0 H) (fun H e => trivial) (fun i H x H' _ _ y => y)
    rw [rgD_len]
    exact w
  · obtain ⟨rfl, rfl⟩ := y
    rw [rgD_len] at hi
    exact ⟨Same.refl _, _, rgD_get hi, .int _⟩
theorem itl_r1 {ta : TA} {k : List PyData → Prop} (h : EvA K ta δ fun rs => ∃ j : Int, rs = [.dat (.int j)] ∧ -(2 ^ 62) ≤ j ∧ j < 2 ^ 62 ∧ k (rgD 0 j.toNat)) : ItL K (iRng1 ta) δ k := by
  intro B H σ R Rr q
  refine h B H σ R _ fun vs H1 rs e o ⟨j, hx, h1, h2, hk⟩ => ?_
  subst hx
  cases o with
  | cons o1 o2 =>
    cases o1; cases o2
    exact ⟨j, rfl, h1, h2, q _ H1 _ e walk_r hk⟩
theorem itl_r2 {ta : TA} {k : List PyData → Prop} (h : EvA K ta δ fun rs => ∃ i j : Int, rs = [.dat (.int i), .dat (.int j)] ∧ (-(2 ^ 62) ≤ i ∧ i < 2 ^ 62 ∧ -(2 ^ 62) ≤ j ∧ j < 2 ^ 62) ∧ k (rgD i (j - i).toNat)) : ItL K (iRng2 ta) δ k := by
  intro B H σ R Rr q
  refine h B H σ R _ fun vs H1 rs e o ⟨i, j, hx, h1, hk⟩ => ?_
  subst hx
  cases o with
  | cons o1 o2 =>
    cases o2 with
    | cons o2 o3 =>
      cases o1; cases o2; cases o3
      exact ⟨i, j, rfl, h1, q _ H1 _ e walk_r hk⟩
end

/-! ## the law's end -/
theorem law_g {P : Program} {w : World} {K : PySem.W.Frag} {mg mb : Str → Option Value} {n : Nat} {fa a : Addr} {cs : List (Addr × Addr)} {fd : FuncData} {x : Str} {s₁ : Shared} {vs : List Value} {ns : List Int} {sp : ASp}
    (kin : K.In s₁.heap) (hns : s₁.heap.Ns mainGlobals mg) (hb : s₁.heap.Ns builtinsNs mb) (hbb : ∀ y : Str, y ≠ "__name__" → mb y = bootBuiltins y) (hlim : s₁.heap.NoLimit) (hg : s₁.gens = #[])
    (hT : ∀ p ∈ cs, s₁.heap.get? p.2 = some { cls := .none, data := .fields #[] }) (nT : ∀ p ∈ cs, K.lookup p.2 = none) (hC : ∀ p ∈ cs, PySem.W.CodeHd s₁.heap p.1 p.2)
    (hbm : ∃ (bm : Addr) (ob : Obj), mg "__builtins__" = some (.ref bm) ∧ bm ≠ builtinsNs ∧ s₁.heap.get? bm = some ob ∧ ob.cls = .type "module" ∧ ob.dict = some builtinsNs ∧ ob.data = .plain)
    (hTT : ∀ p ∈ LamT.T, ∃ c, (c, p.1) ∈ cs) (hS : ∃ mm, s₁.heap.Ns sysModules mm) (kS : K.lookup sysModules = none)
    (ha : s₁.heap.get? a = some { cls := .type "list", data := .seq vs.toArray }) (hi : PyProof.Rows.IntsAre vs ns) (hl : ns.length ≤ sizeLine) (hr : Room n callerA)
    (F : ∀ base : Heap, K.In base → base.Ns mainGlobals mg → (∀ p ∈ cs, LamX.TabB base mg p.1 p.2) → FnG P w K mg base CX0 n fa fd [x] (spOf K sp)) (hbind : ∀ (s : Shared) (u : Value), BindsTo s fd ⟨[u], []⟩ [(x, u)])
    (hsp : sp [.bor (ns.map .int)] fun r => r = .dat (.bool true)) :
    codeAny (model P w) callerA (.call (.ref fa) ⟨[.ref a], []⟩) (fun r s' => r = .ok (.ret (.bool true)) ∧ PySem.OldK s₁.heap s'.heap ∧ s'.os = s₁.os ∧ PyProof.Rows.AllBare s'.gens) s₁ := by
  have rv := vals_ints hi
  have nV := hi.length
  have tab0 : ∀ b, b ∈ cs.map (·.2) → s₁.heap.get? b = some { cls := .none, data := .fields #[] } := fun b hb => by
    obtain ⟨p, hp, rfl⟩ := List.mem_map.mp hb
    exact hT p hp
  have aT : a ∉ cs.map (·.2) := fun z => by
    have q := tab0 a z
    rw [ha] at q
    have q2 := congrArg Obj.data (Option.some.inj q)
    cases q2
  obtain ⟨_, o1, es1, ep1, hS1, hS2, _⟩ := hS
  have aS : a ≠ sysModules := fun z => by
    rw [z, hS1] at ha
    cases ha
    cases hS2
  have tS : ∀ b, b ∈ cs.map (·.2) → b ≠ sysModules := fun b hb z => by
    have q := tab0 b hb
    rw [z, hS1] at q
    cases q
    cases hS2
  have go : ∀ H : Hp, (∀ b, b ∈ cs.map (·.2) → H b = some (.tbl #[])) → (∀ b, b ∉ cs.map (·.2) → H b = none ∨ ∃ o u, H b = some (.frz o u)) → SysK H → SqL K H a (ns.map V.int) → HOk P w H s₁.heap → (∀ b, H b ≠ none → b = a ∨ b ∈ cs.map (·.2) ∨ b = sysModules) → (H a ≠ none → K.lookup a = none) →
      codeAny (model P w) callerA (.call (.ref fa) ⟨[.ref a], []⟩) (fun r s' => r = .ok (.ret (.bool true)) ∧ PySem.OldK s₁.heap s'.heap ∧ s'.os = s₁.os ∧ PyProof.Rows.AllBare s'.gens) s₁ := by
    intro H inT only sys sq hok hA hK
    have under : ∀ {b : Addr} {o : Obj}, s₁.heap.get? b = some o → H b = none → (hidT s₁.heap H).get? b = some o := fun q z => hidT_get q z
    have free0 : ∀ {b : Addr} {o : Obj}, s₁.heap.get? b = some o → b ≠ sysModules → (∀ us m, o.data ≠ .seq us m) → o.data ≠ .fields #[] → H b = none := fun {b o} q d0 d1 d2 => by
      cases hb' : H b with
      | none => rfl
      | some u =>
        exfalso
        rcases hA b (by rw [hb']; simp) with z | z | z
        · subst z
          rw [ha] at q
          cases q
          exact d1 _ _ rfl
        · rw [tab0 b z] at q
          cases q
          exact d2 rfl
        · exact d0 z
    have free : ∀ {b : Addr} {o : Obj}, s₁.heap.get? b = some o → (∀ us m, o.data ≠ .seq us m) → o.data ≠ .fields #[] → (∀ es ep, o.data ≠ .dict es ep) → H b = none := fun {b o} q d1 d2 d3 => free0 q (fun z => by
      rw [z, hS1] at q
      cases q
      exact d3 _ _ hS2) d1 d2
    have nodict : ∀ {b : Addr} {o : Obj} {es : Array DictEntry} {ep : Nat}, s₁.heap.get? b = some o → o.data = .dict es ep → b ≠ sysModules → H b = none := fun q d n => free0 q n (fun us m z => by rw [d] at z; cases z) fun z => by rw [d] at z; cases z
    have nsT : ∀ {b : Addr} {m : Str → Option Value}, b ≠ sysModules → s₁.heap.Ns b m → (hidT s₁.heap H).Ns b m := fun {b m} n ⟨o, es, ep, q, d, rest⟩ => ⟨o, es, ep, under q (nodict q d n), d, rest⟩
    have kinT : K.In (hidT s₁.heap H) := by
      intro b o q
      refine under (kin b o q) ?_
      cases hb' : H b with
      | none => rfl
      | some u =>
        rcases hA b (by rw [hb']; simp) with z | z | z
        rotate_left 2
        · rw [z, kS] at q
          cases q
        · subst z
          rw [hK (by rw [hb']; simp)] at q
          cases q
        · obtain ⟨p, hp, e⟩ := List.mem_map.mp z
          rw [← e, nT p hp] at q
          cases q
    obtain ⟨mc, l1, l2⟩ := hlim
    have hM : Mod K mg (hidT s₁.heap H) := ⟨kinT, nsT (by decide) hns, ⟨mb, nsT (by decide) hb, hbb⟩, ⟨mc, nsT (by decide) l1, l2⟩⟩
    have hTB : ∀ p ∈ cs, LamX.TabB (hidT s₁.heap H) mg p.1 p.2 := fun p hp => by
      have tp := hT p hp
      obtain ⟨go', ge, gp, gq, gd, _⟩ := hns
      constructor
      · obtain ⟨o, us, file, tf, flags, tg, inF, text, tt, c1, c2, c3, c4, c5, c6, c7, c8, c9, c10⟩ := hC p hp
        refine ⟨o, us, file, tf, flags, tg, inF, text, tt, under c1 (free c1 (fun us m z => ?_) (fun z => ?_) fun es ep z => ?_), c2, c3, c4, c5, c6, c7, c8, c9, c10⟩
        · rw [c3] at z
          cases z
        · rw [c3] at z
          cases z
          simp at c4
        · rw [c3] at z
          cases z
      · obtain ⟨bm, ob, b1, b2, b3, b4, b5, b6⟩ := hbm
        refine ⟨bm, ob, b1, b2, fun z => ?_, fun z => ?_, under b3 (free b3 (fun us m z => ?_) (fun z => ?_) fun es ep z => ?_), b4, b5, b6⟩
        · rw [z, gq] at b3
          cases b3
          rw [gd] at b6
          cases b6
        · rw [z, tp] at b3
          cases b3
          cases b6
        · rw [b6] at z
          cases z
        · rw [b6] at z
          cases z
        · rw [b6] at z
          cases z
      · intro z
        rw [z, tp] at gq
        cases gq
        cases gd
    have e0 : Env0 P w K mg (hidT s₁.heap H) callerA [] s₁ H := ⟨rfl, hM, fun b o q => of_hidT q, Nat.le_of_eq (hidT_size _ _), trivial, fun b hb => absurd (show b ∈ ([] : List Addr) from hb) (by simp), hok, .of_eq hg⟩
    have tabs : LamX.Tabs LamT.T H := fun p hp => by
      obtain ⟨c, hc⟩ := hTT p hp
      exact LamX.TabS.nil (inT _ (List.mem_map.mpr ⟨_, hc, rfl⟩))
    have prom : spOf K sp [.ref a] H (fun v _ => v = .bl true) fun _ _ _ => False := by
      have ap : ArgsP K H [.ref a] [.bor (ns.map .int)] := .cons ⟨a, _, rfl, sq, ImAll.ints ns⟩ .nil
      refine ⟨_, _, ⟨ap, tabs, sys⟩, hsp, fun v H' r _ _ o z => ?_⟩
      subst z
      cases o
      rfl
    refine codeAny_mono ((F _ kinT (nsT (by decide) hns) hTB).run callerA [] s₁ H ⟨[.ref a], []⟩ [.ref a] [.ref a] _ _ rfl hr e0 (hbind s₁ (.ref a)) (.cons rfl .nil) prom) fun r s' h => ?_
    match r, h with
    | .error z, h => exact h.elim
    | .ok (.ret u), ⟨v, H', os, bare, un, hok', rel, q⟩ =>
      have q' : v = .bl true := q
      subst q'
      obtain rfl : u = Value.bool true := rel
      have stay : ∀ b o, b ∉ cs.map (·.2) → s₁.heap.get? b = some o → s'.heap.get? b = some o := fun b o nb z => by
        cases hb' : H b with
        | none => exact un.keep b o z hb' (fun y => absurd (show b ∈ ([] : List Addr) from y) (by simp)) (by simp)
        | some u =>
          rcases only b nb with y | ⟨ob, xs, y⟩
          · rw [hb'] at y
            cases y
          · obtain ⟨g1, _⟩ := hok b _ y
            obtain ⟨g2, _⟩ := hok' b _ (un.frzs b ob _ y)
            rw [z] at g1
            cases g1
            exact g2
      have more : ∀ p ∈ cs, ∃ us : Array Value, s'.heap.get? p.2 = some { cls := .none, data := .fields us } := fun p hp => by
        obtain ⟨us, z⟩ := un.tbls p.2 #[] (inT _ (List.mem_map.mpr ⟨p, hp, rfl⟩))
        exact ⟨_, hok' p.2 _ z⟩
      refine ⟨rfl, ⟨fun b o z => ?_, fun b o z => ?_⟩, os, bare⟩
      · by_cases nb : b ∈ cs.map (·.2)
        · obtain ⟨p, hp, rfl⟩ := List.mem_map.mp nb
          obtain ⟨us, q⟩ := more p hp
          rw [hT p hp] at z
          cases z
          exact .inr (.inl ⟨((hC p hp).tab (hT p hp)).isCodeTable, rfl, #[], us, rfl, by rw [Array.empty_append]; exact q⟩)
        · exact .inl (stay b o nb z)
      · by_cases nb : b ∈ cs.map (·.2)
        · obtain ⟨p, hp, rfl⟩ := List.mem_map.mp nb
          obtain ⟨us, q⟩ := more p hp
          exact ⟨_, q⟩
        · exact ⟨o, stay b o nb z⟩
  have go' : ∀ H : Hp, (∀ b, b ∈ cs.map (·.2) → H b = some (.tbl #[])) → (∀ b, b ∉ cs.map (·.2) → H b = none ∨ ∃ o xs, H b = some (.frz o (.lst xs))) → SqL K H a (ns.map V.int) → HOk P w H s₁.heap → (∀ b, H b ≠ none → b = a ∨ b ∈ cs.map (·.2)) → (H a ≠ none → K.lookup a = none) →
      codeAny (model P w) callerA (.call (.ref fa) ⟨[.ref a], []⟩) (fun r s' => r = .ok (.ret (.bool true)) ∧ PySem.OldK s₁.heap s'.heap ∧ s'.os = s₁.os ∧ PyProof.Rows.AllBare s'.gens) s₁ := by
    intro H inT only sq hok hA hK
    have ne : ∀ b, b ≠ sysModules → (if b = sysModules then some (HO.frz o1 (.ext fun _ => True)) else H b) = H b := fun b n => if_neg n
    refine go (fun b => if b = sysModules then some (.frz o1 (.ext fun _ => True)) else H b) (fun b hb => (ne b (tS b hb)).trans (inT b hb)) (fun b hb => ?_) ⟨o1, _, _, _, if_pos rfl, hS2⟩ ?_ (fun b u z => ?_) (fun b z => ?_) fun z => hK fun q => z ((ne a aS).trans q)
    · by_cases h : b = sysModules
      · exact .inr ⟨o1, _, if_pos h⟩
      · rcases only b hb with q | ⟨o, xs, q⟩
        · exact .inl ((ne b h).trans q)
        · exact .inr ⟨o, _, (ne b h).trans q⟩
    · rcases sq with (q | ⟨o, q⟩) | q
      · exact .inl (.inl ((ne a aS).trans q))
      · exact .inl (.inr ⟨o, (ne a aS).trans q⟩)
      · exact .inr q
    · by_cases h : b = sysModules
      · subst h
        have z' := (if_pos rfl).symm.trans z
        cases z'
        exact ⟨hS1, trivial, ⟨o1, hS1⟩, fun _ _ _ _ => trivial⟩
      · have z1 := (ne b h).symm.trans z
        by_cases hb : b ∈ cs.map (·.2)
        · have q := (inT b hb).symm.trans z1
          cases q
          exact hok b _ z1
        · rcases only b hb with q | ⟨o, xs, q⟩
          · rw [q] at z1
            cases z1
          · have q2 := q.symm.trans z1
            cases q2
            exact hok b _ z1
    · by_cases h : b = sysModules
      · exact .inr (.inr h)
      · exact (hA b fun q => z ((ne b h).trans q)).imp id .inl
  cases hk : K.lookup a with
  | some o =>
    have q := kin a o hk
    rw [ha] at q
    cases q
    refine go' (fun b => if b ∈ cs.map (·.2) then some (.tbl #[]) else none) (fun b hb => if_pos hb) (fun b hb => .inl (if_neg hb)) (.inr ⟨_, vs.toArray, _, hk, rfl, rfl, rfl, by rw [List.size_toArray, nV]; exact hl, by simpa using rv⟩) (fun b u z => ?_) (fun b z => ?_) fun z => absurd (if_neg aT) z
    · by_cases hb : b ∈ cs.map (·.2)
      · have z' := (if_pos hb).symm.trans z
        cases z'
        exact tab0 b hb
      · have z' := (if_neg hb).symm.trans z
        cases z'
    · by_cases hb : b ∈ cs.map (·.2)
      · exact .inr hb
      · exact absurd (if_neg hb) z
  | none =>
    refine go' (fun b => if b = a then some (.frz { cls := .type "list", data := .seq vs.toArray } (.lst (ns.map V.int))) else if b ∈ cs.map (·.2) then some (.tbl #[]) else none) (fun b hb => (if_neg (show ¬ b = a from fun z => aT (z ▸ hb))).trans (if_pos hb)) (fun b nb => ?_) (.inl (.inr ⟨_, if_pos rfl⟩)) (fun b u z => ?_) (fun b z => ?_) fun _ => hk
    · by_cases hb : b = a
      · exact .inr ⟨_, _, if_pos hb⟩
      · exact .inl ((if_neg hb).trans (if_neg nb))
    · by_cases hb : b = a
      · subst hb
        have z' := (if_pos rfl).symm.trans z
        cases z'
        exact ⟨ha, by rw [List.length_map]; exact hl, vs, _, rv, ha⟩
      · have z1 := (if_neg hb).symm.trans z
        by_cases nb : b ∈ cs.map (·.2)
        · have z' := (if_pos nb).symm.trans z1
          cases z'
          exact tab0 b nb
        · have z' := (if_neg nb).symm.trans z1
          cases z'
    · by_cases hb : b = a
      · exact .inl hb
      · by_cases nb : b ∈ cs.map (·.2)
        · exact .inr nb
        · exact absurd ((if_neg hb).trans (if_neg nb)) z
theorem walk_g {l : PySem.W.OpenLaw} {n : Nat} {q : Program} {loose : List Str} {XP : (Str → Option Value) → Heap → Prop} {YP : World → Heap → Prop} {d : DefRec} {K : Params → PySem.W.Frag} {cs : List (Addr × Addr)} {sp : ASp} {x : Str}
    (hn : l.most = some 63) (hdf : d.params.defaults = []) (hr : Room n callerA) (hY : ∀ (w : World) (h : Heap), YP w h → (K w.params).In h) (hYT : ∀ (w : World) (h : Heap), YP w h → ∀ p ∈ cs, h.get? p.2 = some { cls := .none, data := .fields #[] })
    (nT : ∀ (w : World), ∀ p ∈ cs, (K w.params).lookup p.2 = none) (hC : ∀ (w : World), ∀ p ∈ cs, PySem.W.codeHdIn (K w.params) p.1 p.2 = true) (hTT : ∀ p ∈ LamT.T, ∃ c, (c, p.1) ∈ cs) (kS : ∀ (w : World), (K w.params).lookup sysModules = none) (kI : PyProof.Rows.importsNone q = true)
    (F : ∀ (w : World) (mg : Str → Option Value) (fa : Addr) (h : Heap), (K w.params).In h → h.Ns mainGlobals mg → mg d.name = some (.ref fa) →
      ∃ fd : FuncData, (∀ (s : Shared) (u : Value), BindsTo s fd ⟨[u], []⟩ [(x, u)]) ∧ ∀ base : Heap, (K w.params).In base → base.Ns mainGlobals mg → (∀ p ∈ cs, LamX.TabB base mg p.1 p.2) → FnG l.prog w (K w.params) mg base CX0 n fa fd [x] (spOf (K w.params) sp))
    (hsp : ∀ ns : List Int, ns.length ≤ 63 → (∀ z ∈ ns, Builtin.Int.intBits z ≤ 1048576) → sp [.bor (ns.map .int)] fun r => r = .dat (.bool true)) :
    PySem.W.WalkO q loose XP YP l.row.toRowW d [] (fun f vs => PySem.call f vs) := by
  refine Att.attach_callB hn hdf fun w s₀ s₁ mg mb fa o pm cd doc a vs ns G Y ho hd hcd hmg hobj hints hlen hbits hg => ?_
  have kin := hY w _ Y
  obtain ⟨fd, hb, hF⟩ := F w mg fa _ kin G.T.g hmg
  exact law_g kin G.T.g G.T.b G.T.builtins G.T.nolimit hg (hYT w _ Y) (nT w) (fun p hp => PySem.W.codeHd_of_K kin (hC w p hp)) G.T.bmain hTT (let ⟨mm, z, _⟩ := (G.T.seer kI).mods; ⟨mm, z⟩) (kS w) hobj hints (Nat.le_trans hlen (by decide)) hr hF hb (hsp ns hlen hbits)
end Dl

/-! own layer: enumerate and zip of lists and tuples in any mix -/
namespace Dl
variable [LamT] [XR]
open PySem PySem.Spec L2
/-- the list or tuple at a -/
def Sq (K : PySem.W.Frag) (b : Bool) (H : Hp) (a : Addr) (xs : List V) : Prop := if b then SqL K H a xs else SqT K H a xs
def itObj (b : Bool) (a : Addr) : Obj := if b then { cls := .type "list_iterator", data := .fields #[.ref a, .int 0 0] } else { cls := .type "tuple_iterator", data := .fields #[.ref a, .int 0 0] }
def IsIt (b : Bool) (h : Heap) (it a : Addr) (i : Nat) : Prop := if b then h.IsListIter it a i else h.IsTupleIter it a i
def IsSq (b : Bool) (h : Heap) (a : Addr) (its : Array Value) : Prop := if b then h.IsList a its else h.IsTuple a its
theorem IsIt.at {b : Bool} {h h' : Heap} {it a : Addr} {i : Nat} (x : IsIt b h it a i) (k : ∀ o, h.get? it = some o → h'.get? it = some o) : IsIt b h' it a i := by
  cases b
  · exact Heap.IsTupleIter.at (show h.IsTupleIter it a i from x) k
  · exact Heap.IsListIter.at (show h.IsListIter it a i from x) k
theorem IsIt.obj {b : Bool} {h : Heap} {it a : Addr} {i : Nat} (x : IsIt b h it a i) : ∃ o, h.get? it = some o ∧ ∀ v, o.data ≠ .cell v := by
  cases b
  · obtain ⟨o, h1, _, h2⟩ := (show h.IsTupleIter it a i from x)
    exact ⟨o, h1, fun v q => by rw [h2] at q; cases q⟩
  · obtain ⟨o, h1, _, h2⟩ := (show h.IsListIter it a i from x)
    exact ⟨o, h1, fun v q => by rw [h2] at q; cases q⟩
theorem IsIt.ne {b c : Bool} {h : Heap} {it a d : Addr} {i : Nat} {its : Array Value} (x : IsIt b h it a i) (y : IsSq c h d its) : d ≠ it := by
  intro z
  subst z
  have hx : ∃ o n, h.get? d = some o ∧ o.cls = .type n ∧ (n = "list_iterator" ∨ n = "tuple_iterator") := by
    cases b
    · obtain ⟨o, h1, h2, _⟩ := (show h.IsTupleIter d a i from x)
      exact ⟨o, _, h1, h2, .inr rfl⟩
    · obtain ⟨o, h1, h2, _⟩ := (show h.IsListIter d a i from x)
      exact ⟨o, _, h1, h2, .inl rfl⟩
  have hy : ∃ o n, h.get? d = some o ∧ o.cls = .type n ∧ (n = "list" ∨ n = "tuple") := by
    cases c
    · obtain ⟨o, h1, h2, _⟩ := (show h.IsTuple d its from y)
      exact ⟨o, _, h1, h2, .inr rfl⟩
    · obtain ⟨o, h1, h2, _⟩ := (show h.IsList d its from y)
      exact ⟨o, _, h1, h2, .inl rfl⟩
  obtain ⟨o, n, h1, h2, h3⟩ := hx
  obtain ⟨u, m, g1, g2, g3⟩ := hy
  rw [h1] at g1
  cases g1
  rw [h2] at g2
  cases g2
  rcases h3 with rfl | rfl <;> rcases g3 with z | z <;> exact absurd z (by decide)
theorem IsSq.neE {c : Bool} {h : Heap} {d e it : Addr} {k : Int} {old : Value} {its : Array Value} (y : IsSq c h d its) (x : IsEnum h e it k old) : e ≠ d := by
  intro z
  subst z
  cases c
  · obtain ⟨o, h1, h2, _⟩ := (show h.IsTuple e its from y)
    rw [x] at h1
    cases h1
    exact absurd (Value.type.inj h2) (by decide)
  · obtain ⟨o, h1, h2, _⟩ := (show h.IsList e its from y)
    rw [x] at h1
    cases h1
    exact absurd (Value.type.inj h2) (by decide)
section
variable {X : Cx} {pins : List (Addr × Obj)} {σ : L2.St} {H : Hp} {s : Shared}
theorem sq_its {b : Bool} {a : Addr} {xs : List V} (I : Inv X pins σ H s) (h : Sq X.K b H a xs) : ∃ its : List Value, Vals xs its ∧ IsSq b s.heap a its.toArray ∧ xs.length ≤ sizeLine := by
  cases b
  · obtain ⟨its, h1, h2, h3⟩ := I.tuple (show SqT X.K H a xs from h)
    exact ⟨its, h1, h2, h3⟩
  · obtain ⟨its, h1, h2, h3⟩ := I.list (show SqL X.K H a xs from h)
    exact ⟨its, h1, h2.isList, h3⟩
theorem sq_inj {b : Bool} {a : Addr} {xs ys : List V} (I : Inv X pins σ H s) (h : Sq X.K b H a xs) (h' : Sq X.K b H a ys) : xs = ys := by
  cases b
  · exact I.tuple_inj (show SqT X.K H a xs from h) h'
  · exact I.list_inj (show SqL X.K H a xs from h) h'
end
theorem draws_sq {prog : Program} {w : World} {A : Around} (hh : A.handled = none) (b : Bool) (it a : Addr) (hne : a ≠ it) (items : Array Value) :
    Draws prog w A it [it, a] items.size (fun i v => items[i]? = some v) (fun i h => IsIt b h it a i ∧ IsSq b h a items) := by
  cases b
  · exact Draws.tuple hh it a hne items
  · exact Draws.list hh it a hne items
theorem begins_sq (b : Bool) (a : Addr) (items : Array Value) : Begins (.ref a) (itObj b a) fun h => IsSq b h a items := by
  cases b
  · exact begins_tuple a items
  · exact begins_list a items
theorem isIt_new {b : Bool} {h : Heap} {it a : Addr} (e : h.get? it = some (itObj b a)) : IsIt b h it a 0 := by
  cases b
  · exact ⟨_, e, rfl, rfl⟩
  · exact ⟨_, e, rfl, rfl⟩

/-! ## enumerate -/
def IteA (K : PySem.W.Frag) (b : Bool) (a : Addr) : It :=
  ⟨fun i H => ∃ (xs : List V) (x : V), Sq K b H a xs ∧ xs[i]? = some x, fun i H v H' => ∃ T x, v = .ref T ∧ H T = none ∧ H' = upd H T (.tup [.int (i : Nat), x]) ∧ ∀ xs, Sq K b H a xs → xs[i]? = some x, fun i H => ∃ xs : List V, Sq K b H a xs ∧ xs.length ≤ i⟩
theorem turn_enumA {P : Program} {w : World} {K : PySem.W.Frag} {elts : List Expr} {kk : Nat} {tpos : Pos} (b : Bool) (a e it : Addr) :
    Turn P w K (.Tuple elts kk tpos) (IteA K b a) [e, it] e (fun i h => (∃ old, IsEnum h e it ((i : Nat) : Int) old) ∧ IsIt b h it a i ∧ e ≠ it) where
  mem := List.mem_cons_self
  obj := by
    rintro i h ⟨⟨old, he⟩, hit, _⟩ c hc
    rcases List.mem_cons.mp hc with z | z
    · subst z
      exact ⟨_, he, fun v q => nomatch q⟩
    · obtain rfl := List.mem_singleton.mp z
      exact hit.obj
  keep := by
    rintro i h h' ⟨⟨old, he⟩, hit, hne⟩ k
    exact ⟨⟨old, k e List.mem_cons_self _ he⟩, hit.at fun o q => k it (by simp) o q, hne⟩
  item := by
    intro X hP hw hK hc i pins s σ H E I hf st hg
    subst hP hw hK
    obtain ⟨⟨old, he⟩, hit, hne⟩ := st
    obtain ⟨xs, x, hq, hx⟩ := hg
    obtain ⟨its, rv, isq, _⟩ := sq_its I hq
    have hlt : i < its.toArray.size := by
      have := (List.getElem?_eq_some_iff.mp hx).1
      rw [rv.length] at this
      simpa using this
    have hae : e ∉ [it, a] := fun z => by
      rcases List.mem_cons.mp z with z | z
      · exact hne z
      · exact isq.neE he (List.mem_singleton.mp z)
    have hh : X.A.in1.handled = none := I.ok.hd hc
    refine wpAny_pyNext_enum_itemD (draws_sq hh b it a (hit.ne isq) its.toArray) he ⟨hit, isq⟩ hlt hne hae fun u h' tk hu ho hst hT hsz hk => ?_
    obtain ⟨u', hu', ru⟩ := rv.get hx
    have euu : u = u' := by
      have h1 : its.toArray[i]? = its[i]? := by simp
      have h2 : some u = some u' := by rw [← hu', ← h1]; exact hu.symm
      exact Option.some.inj h2
    subst euu
    have hel : e < s.heap.objs.size := Heap.lt_size he
    have hil : it < s.heap.objs.size := by
      obtain ⟨o, q, _⟩ := hit.obj
      exact Heap.lt_size q
    refine ⟨_, rfl, wpAny_letOwnedTupleGo_enum (s := { s with heap := h', toks := tk + 1 }) ho fun h'' he' sb => ?_⟩
    have hT2 := (sb.2 _ (Nat.ne_of_gt hel)).trans hT
    have new : ObjOk X.prog X.w (upd H s.heap.objs.size (.tup [.int (i : Nat), x])) h'' s.heap.objs.size (.tup [.int (i : Nat), x]) :=
      ⟨(by decide : 2 ≤ sizeLine), [.int i tk, u], .cons ⟨_, rfl⟩ (.cons ru .nil), ⟨_, hT2, rfl, _, rfl⟩⟩
    have far : ∀ c, c ∉ [e, it] → c ≠ e ∧ c ≠ it := fun c hc => ⟨fun z => hc (by simp [z]), fun z => hc (by simp [z])⟩
    have I1 : Inv X pins σ (upd H s.heap.objs.size (.tup [.int (i : Nat), x])) { s with heap := h'', toks := tk + 1 } :=
      I.turnedNew (ch := [e, it]) (fun c ob hc q => (sb.2 c (far c hc).1).trans (hk c ob (far c hc).1 (far c hc).2 q)) hf (Nat.le_refl _) new
    refine ⟨.ref s.heap.objs.size, _, I1, rfl, ⟨_, x, rfl, I.hok.fresh (Nat.le_refl _), rfl, fun ys hy => ?_⟩, ⟨⟨u, ?_⟩, hst.1.at fun o q => (sb.2 it (Ne.symm hne)).trans q, hne⟩, fun c hc => ?_⟩
    · rw [sq_inj I hy hq]
      exact hx
    · have z : ((i + 1 : Nat) : Int) = (i : Int) + 1 := by omega
      rw [z]
      exact he'
    · have hcl : c < s.heap.objs.size := by
        rcases List.mem_cons.mp hc with z | z
        · rw [z]
          exact hel
        · rw [List.mem_singleton.mp z]
          exact hil
      rw [upd_ne (Nat.ne_of_lt hcl)]
      exact (hf c hc).1
  done := by
    intro X hP hw hK hc i pins s σ H E I hf st hg
    subst hP hw hK
    obtain ⟨⟨old, he⟩, hit, hne⟩ := st
    obtain ⟨xs, hq, hx⟩ := hg
    obtain ⟨its, rv, isq, _⟩ := sq_its I hq
    have hh : X.A.in1.handled = none := I.ok.hd hc
    have fin : ∀ h' : Heap, (Heap.ExtBut it s.heap h') → (none : Option Value) = none ∧ Inv X pins σ H { s with heap := h' } := fun h' ex =>
      ⟨rfl, I.turnedL (t' := s.toks) (ch := [e, it]) (fun c o hc q => ex c o (fun z => hc (by simp [z])) q) hf⟩
    have hend : its.toArray[i]? = none := by
      have := rv.length
      simp
      omega
    cases b with
    | true => exact wpAny_pyNext_enum_end (I.ok.hd hc) he hit isq hend fin
    | false =>
      refine wpAny_pyNext_enum_endD (n := i) (P := fun _ _ => False) (St := fun j h => j = i ∧ h.IsTupleIter it a i ∧ h.IsTuple a its.toArray) (fp := [it, a])
        ⟨?_, ?_, ?_, ?_⟩ he ⟨rfl, hit, isq⟩ fin
      · rintro j h ⟨_, h1, _⟩
        obtain ⟨o, q, _⟩ := h1
        exact ⟨o, q⟩
      · rintro j h h' ⟨e1, h1, h2⟩ k
        refine ⟨e1, h1.at fun o q => k it (by simp) o q, ?_⟩
        obtain ⟨o, q1, q2⟩ := h2
        exact ⟨o, k a (by simp) _ q1, q2⟩
      · rintro j s' Q E' hj ⟨e1, _⟩
        omega
      · rintro s' Q E' ⟨_, h1, h2⟩ hE
        exact wpAny_nextOf_tuple_end hh h1 h2 hend hE
  self := fun A i s Q E st h => by
    obtain ⟨⟨_, he⟩, _⟩ := st
    exact wpAny_pyIter_enum he h
theorem meets_enumT (l : Addr) (items : Array Value) (n : Nat) (dct : Option Addr) (sl : Array (Option Value)) :
    Meets (Builtin.«enumerate.__new__» ⟨[.type "enumerate", .ref l], []⟩) (fun _ R s => s.heap.get? l = some { cls := .type "tuple", dict := dct, data := .seq items n, slots := sl } ∧
      R (.ok (.ret (.ref (s.heap.push (itObj false l)).objs.size))) { s with heap := (s.heap.push (itObj false l)).push { cls := .type "enumerate", data := .fields #[.none, .bool false, .ref s.heap.objs.size, rawInt 0, .none, .none] } }) :=
  .of_wp fun prog w A R s h => by
    obtain ⟨hp, g, d, tk, os⟩ := s
    obtain ⟨hl, h⟩ := h
    have hsub := sub_enumerate
    have ist : Heap.IsTuple (Shared.heap ⟨hp, g, d, tk, os⟩) l items := ⟨_, hl, rfl, n, rfl⟩
    wp_walk using AutoSeq1.wpAny_loadPart' hl
    refine wpAny_stack_any fun st => wpAny_pure ?_
    split
    · rename_i c _ _ _ _ _
      cases (c == Value.type "enumerate") <;>
      · wp_walk using AutoSeq1.wpAny_loadPart' hl, wpAny_pyIter_tuple ist
        exact ⟨_, rfl, h⟩
    · wp_walk using AutoSeq1.wpAny_loadPart' hl, wpAny_pyIter_tuple ist
      exact ⟨_, rfl, h⟩
theorem call_enumT {prog : Program} {w : World} {A : Around} {E : Value → Shared → Prop} {s : Shared} {l : Addr} {items : Array Value} {Q : Value → Shared → Prop} (ht : s.heap.IsTuple l items)
    (h : ∀ h', IsEnum h' (s.heap.objs.size + 1) s.heap.objs.size 0 .none → h'.get? s.heap.objs.size = some (itObj false l) →
      (∀ b o, s.heap.get? b = some o → h'.get? b = some o) → Q (.ref (s.heap.objs.size + 1)) { s with heap := h' }) :
    wpAny (model prog w) A (call (.type "enumerate") [.ref l]) Q E s := by
  obtain ⟨⟨c, dct, dt, sl⟩, hl, hc, n, hd⟩ := ht
  obtain rfl : c = .type "tuple" := hc
  obtain rfl : dt = .seq items n := hd
  refine callType_new F.called_enumerate (by decide) (F.typeCall_enumerate_1 _) (F.newCall_enumerate_1 _) (fun obj => F.args_object_init_2 obj _) F.entry_enumerate_new (meets_enumT l items n dct sl) ⟨hl, ?_⟩
  have z : (s.heap.push (itObj false l)).objs.size = s.heap.objs.size + 1 := Heap.size_push ..
  have g1 := Heap.get?_push_size (s.heap.push (itObj false l)) (o := { cls := .type "enumerate", data := .fields #[.none, .bool false, .ref s.heap.objs.size, rawInt 0, .none, .none] }) rfl
  rw [z] at g1
  show _ ∧ _
  rw [z]
  exact ⟨⟨_, g1, rfl⟩, h _ g1 (Heap.get?_push_of_some _ (Heap.get?_push_size _ rfl)) fun b o q => Heap.get?_push_of_some _ (Heap.get?_push_of_some _ q)⟩
def iEnumA (K : PySem.W.Frag) (ta : TA) : TI := fun σ H R => ta σ H fun vs H1 => ∃ b a xs, vs = [.ref a] ∧ Sq K b H1 a xs ∧ R (IteA K b a) H1
theorem pi_enumA {X : Cx} {e : Expr} {ta : TA} {p pos tpos : Pos} {elts : List Expr} {kk : Nat} (hm : X.mg "enumerate" = none) (ha : PA X [e] ta) (hg : Gl X "enumerate" := by rfl) (hs : starEach [e] X.env = [(false, eval e X.env)] := by rfl) :
    PI X (.Tuple elts kk tpos) (.Call (.Name "enumerate" p) [e] [] pos) (iEnumA X.K ta) := by
  refine ⟨fun pins s σ H R I h => ?_⟩
  refine PyProof.Rows.Call_ (ld_blt I hg hm PyProof.Rows.boot_enumerate (PyProof.Rows.callWith_type1 (thn (ha.run pos pins s σ H _ I h) fun us s1 ⟨vs, H1, I1, r1, q1⟩ => ?_) hs rfl))
  obtain ⟨b, a, xs, rfl, hq, q⟩ := q1
  obtain rfl := Vals.ref1 r1
  obtain ⟨its, rv, isq, _⟩ := sq_its I1 hq
  have fpo : ∀ c ∈ [s1.heap.objs.size + 1, s1.heap.objs.size], FpOk X pins H1 c := fun c hc => by
    have hle : s1.heap.objs.size ≤ c := by
      rcases List.mem_cons.mp hc with z | z
      · rw [z]
        exact Nat.le_succ _
      · rw [List.mem_singleton.mp z]
        exact Nat.le_refl _
    exact I1.fpOk hle (I1.hok.fresh hle)
  cases b with
  | true =>
    refine call_enumerate_list isq fun h' he hit hsz hk => wpAny_pyIter_enum he ?_
    exact ⟨_, [s1.heap.objs.size + 1, s1.heap.objs.size], _, _, H1, rfl, I1.kept (t' := s1.toks) hk, turn_enumA true a _ _, ⟨⟨.none, he⟩, hit, Nat.succ_ne_self _⟩, fpo, q⟩
  | false =>
    refine call_enumT isq fun h' he hit hk => wpAny_pyIter_enum he ?_
    exact ⟨_, [s1.heap.objs.size + 1, s1.heap.objs.size], _, _, H1, rfl, I1.kept (t' := s1.toks) hk, turn_enumA false a _ _, ⟨⟨.none, he⟩, isIt_new hit, Nat.succ_ne_self _⟩, fpo, q⟩
end Dl

/-! own layer: the rules with the written part named -/
namespace Dl
variable [LamT] [XR]
open PySem PySem.Spec L2
section
variable {X : Cx}
theorem hu64 {A : Around} {n : Nat} (h : Room n A) : A.units + 64 < cLine := h.units
theorem hu65 {A : Around} {n : Nat} (h : Room n A) : A.units + 65 < cLine := by have := h.un; omega
theorem hu0 {A : Around} {n : Nat} (h : Room n A) : A.units < cLine := h.units0
theorem hu1 {A : Around} {n : Nat} (h : Room n A) : A.units + 1 < cLine := by have := h.units; omega
theorem qAdd (K : PySem.W.Frag) (h : X.K = K := by rfl) : OpR X (binaryOp .Add) (rAdd K) := by subst h; exact oAdd
theorem qMul (K : PySem.W.Frag) (h : X.K = K := by rfl) : OpR X (binaryOp .Mult) (rMul K) := by subst h; exact oMul
theorem qEq (K : PySem.W.Frag) (hu : X.A.units + 64 < cLine) (h : X.K = K := by rfl) : OpR X (compareOp .Eq) (rEqD K) := by subst h; exact oEq hu
theorem qNe (K : PySem.W.Frag) (hu : X.A.units + 64 < cLine) (h : X.K = K := by rfl) : OpR X (compareOp .NotEq) (rNeD K) := by subst h; exact oNe hu
theorem qLt (K : PySem.W.Frag) (hu : X.A.units < cLine) (h : X.K = K := by rfl) : OpR X (compareOp .Lt) (rLtA K) := by subst h; exact oLt hu
theorem qSl (K : PySem.W.Frag) (h : X.K = K := by rfl) : SlR X (rSl K) := by subst h; exact oSl
theorem qIx (K : PySem.W.Frag) (h : X.K = K := by rfl) : IxR X (rIx K) := by subst h; exact ix_seq
theorem qLen (K : PySem.W.Frag) (h : X.K = K := by rfl) : CallR X (.builtin "len") (bLen K) := by subst h; exact cLen
theorem qList (K : PySem.W.Frag) (h : X.K = K := by rfl) : CallR X (.type "list") (bList K) := by subst h; exact cList
theorem qTuple (K : PySem.W.Frag) (h : X.K = K := by rfl) : CallR X (.type "tuple") (bTuple K) := by subst h; exact cTuple
theorem qSum (K : PySem.W.Frag) (h : X.K = K := by rfl) (hc : X.calm = true := by rfl) : CallR X (.builtin "sum") (rSum K) := by subst h; exact cSum hc
theorem qAll (K : PySem.W.Frag) (h : X.K = K := by rfl) (hc : X.calm = true := by rfl) : CallR X (.builtin "all") (rAll K) := by subst h; exact cAll hc
theorem qRepr (K : PySem.W.Frag) (hG : X.A.guards = some []) (hu : X.A.units + 64 < cLine) (h : X.K = K := by rfl) : CallR X (.builtin "repr") (bRepr K) := by subst h; exact cRepr hG hu
variable {tg e : Expr} {te : TE}
theorem qSeq (K : PySem.W.Frag) (he : PE X e te) (h : X.K = K := by rfl) : PI X tg e (iSeq K te) := by subst h; exact pi_seq he
theorem qEnum (K : PySem.W.Frag) {ta : TA} {p pos tpos : Pos} {elts : List Expr} {kk : Nat} (hm : X.mg "enumerate" = none) (ha : PA X [e] ta) (h : X.K = K := by rfl) (hg : Gl X "enumerate" := by rfl) (hs : starEach [e] X.env = [(false, eval e X.env)] := by rfl) :
    PI X (.Tuple elts kk tpos) (.Call (.Name "enumerate" p) [e] [] pos) (iEnumA K ta) := by subst h; exact pi_enumA hm ha hg hs
theorem qTup (K : PySem.W.Frag) (n : Nat) {es : List Expr} {k : Nat} {t : TGs} {pos : Pos} (hp : PGs X es t) (h : X.K = K := by rfl) (hc : X.calm = true := by rfl) (hn : (assignEach es X.env).length = n := by rfl) (hst : (assignEach es X.env).findIdx? (·.1) = none := by rfl) :
    PG X (.Tuple es k pos) (gTup K n t) := by subst h; exact pg_tup hc hp hn hst
theorem qTruth (K : PySem.W.Frag) (ha : PE X e te) (he : ∀ whole, isTrue e X.env whole = (do let v ← whole; standAt e.pos; holding [v] (truthy v))) (h : X.K = K := by rfl) : PT X e (tTr K te) := by subst h; exact pt_truth ha he
theorem kBm (K : PySem.W.Frag) {T : String} {r : V → List V → Hp → VK → Prop} {to : TE} {t : TA} (h : PE X e (tBM X.K T r to t)) (hK : X.K = K := by rfl) : PE X e (tBM K T r to t) := by subst hK; exact h
theorem kBm0 (K : PySem.W.Frag) {T : String} {r : V → List V → Hp → VK → Prop} {to : TE} (h : PE X e (tBM0 X.K T r to)) (hK : X.K = K := by rfl) : PE X e (tBM0 K T r to) := by subst hK; exact h
end
theorem cmw {i j : Int} (h1 : -(2 ^ 62) < i) (h2 : i < 2 ^ 62) (h3 : -(2 ^ 62) < j) (h4 : j < 2 ^ 62) : CMulW i j :=
  wide_mul (a := 62) (b := 62) (by omega) (by omega) (by decide) (by decide) (by decide)
theorem cdv {i j : Int} (h1 : 0 < j) (h2 : j < 2 ^ 62) : CDivW i j := wide_div (b := 62) h1 (by omega) (by decide) (by decide)
end Dl

/-! own layer: the bag; more words -/
namespace Dl
variable [LamT] [XR]
open PySem PySem.Spec L2
section
variable {X : Cx} {pins : List (Addr × Obj)} {σ : L2.St} {H : Hp} {s : Shared}
def BagV (a s i : Int) : Prop := 0 ≤ a ∧ 0 ≤ s ∧ s < 2147483647 ∧ 0 ≤ i
theorem bag_open {p c : Addr} (I : Inv X pins σ H s) (h : H p = some (.ext (BagO p c))) : ∃ a b i, BagV a b i ∧ Inv X pins σ (upd H p (.lst [.int a, .int b, .int i, .ref c])) s := by
  obtain ⟨⟨a, b, i, ta, tb, ti, n, ho, h1, h2, h3, h4⟩, _⟩ := I.hok p _ h
  refine ⟨a, b, i, ⟨h1, h2, h3, h4⟩, ?_⟩
  refine I.write (x := p) (e := p) (h' := s.heap) (t' := s.toks) (by rw [h]; trivial) (.inl rfl) (fun _ _ _ e => e) ⟨_, ho⟩ ?_
  exact ⟨by show 4 ≤ sizeLine; decide, [.int a ta, .int b tb, .int i ti, .ref c], n, .cons ⟨_, rfl⟩ (.cons ⟨_, rfl⟩ (.cons ⟨_, rfl⟩ (.cons rfl .nil))), ho⟩
theorem bag_close {p c : Addr} {a b i : Int} (I : Inv X pins σ H s) (h : H p = some (.lst [.int a, .int b, .int i, .ref c])) (hv : BagV a b i) : Inv X pins σ (upd H p (.ext (BagO p c))) s := by
  obtain ⟨_, its, n, rv, ho⟩ := I.hok p _ h
  obtain ⟨h1, h2, h3, h4⟩ := hv
  have obj : ∃ (a' b' i' : Int) (ta tb ti : Tok) (n : Nat), s.heap.get? p = some { cls := .type "list", data := .seq #[.int a' ta, .int b' tb, .int i' ti, .ref c] n } ∧ 0 ≤ a' ∧ 0 ≤ b' ∧ b' < 2147483647 ∧ 0 ≤ i' := by
    cases rv with
    | cons r1 rv => cases rv with
      | cons r2 rv => cases rv with
        | cons r3 rv => cases rv with
          | cons r4 rv =>
            cases rv
            obtain ⟨ta, rfl⟩ := r1
            obtain ⟨tb, rfl⟩ := r2
            obtain ⟨ti, rfl⟩ := r3
            cases r4
            exact ⟨a, b, i, ta, tb, ti, n, ho, h1, h2, h3, h4⟩
  refine I.write (x := p) (e := p) (h' := s.heap) (t' := s.toks) (by rw [h]; trivial) (.inl rfl) (fun _ _ _ e => e) ⟨_, ho⟩ ⟨obj, ⟨_, ho⟩, ?_⟩
  rintro k1 k2 ⟨a', b', i', ta, tb, ti, n, q, r⟩ hk
  exact ⟨a', b', i', ta, tb, ti, n, hk _ q, r⟩
theorem upd_back {p : Addr} {u o : HO} (h : H p = some o) : upd (upd H p u) p o = H := by
  rw [upd_upd]
  funext b
  by_cases hb : b = p
  · subst hb
    rw [upd_same, h]
  · rw [upd_ne hb]
theorem bag_back {p c : Addr} {a b i : Int} {u : HO} (h : H p = some (.ext (BagO p c))) (hv : BagV a b i) (I : Inv X pins σ (upd (upd H p u) p (.lst [.int a, .int b, .int i, .ref c])) s) : Inv X pins σ H s := by
  have I2 := bag_close I upd_same hv
  rw [upd_upd, upd_back h] at I2
  exact I2
end
def rIxBag : R2 := fun x y H Q => ∃ (p c : Addr) (ns : List Int), x = .ref p ∧ H p = some (.ext (BagO p c)) ∧ FzL H c (ns.map V.int) ∧ Cells ns ∧
  ((y = .int 0 ∧ ∀ a, 0 ≤ a → Q (.int a) H) ∨ (y = .int 1 ∧ ∀ b, 0 ≤ b → b < 2147483647 → Q (.int b) H) ∨ (y = .int 2 ∧ ∀ i, 0 ≤ i → Q (.int i) H) ∨ (y = .int 3 ∧ Q (.ref c) H))
theorem ix_bag {X : Cx} : IxR X rIxBag := by
  intro value slice pins s σ H x y v u Q I rx ry h hs
  obtain ⟨p, c, ns, rfl, hp, hc, hn, h⟩ := h
  obtain ⟨a, b, i, hv, I1⟩ := bag_open I hp
  have go : ∀ (k : Nat) (z : V), ([.int a, .int b, .int i, .ref c] : List V)[k]? = some z → y = .int (k : Nat) → Q z H → wpAny (model X.prog X.w) X.A (PyProof.Rows.subscriptTail value slice v u) (EP X pins σ Q) X.xe s := by
    intro k z hz hy q
    subst hy
    have r : rIxL X.K (.ref p) (.int (k : Nat)) (upd H p (.lst [.int a, .int b, .int i, .ref c])) (fun z' H' => H' = upd H p (.lst [.int a, .int b, .int i, .ref c]) ∧ z' = z) :=
      ⟨p, _, _, z, rfl, rfl, SqL.of upd_same, atI_nat hz, rfl, rfl⟩
    refine thn (ix_list value slice pins s σ _ _ _ v u _ I1 rx ry r hs) fun w s' ⟨z', H', I2, r2, hH, hz'⟩ => ?_
    subst hH hz'
    exact ⟨_, H, bag_back (u := .lst []) hp hv (by rw [upd_upd]; exact I2), r2, q⟩
  obtain ⟨v1, v2, v3, v4⟩ := hv
  rcases h with ⟨rfl, q⟩ | ⟨rfl, q⟩ | ⟨rfl, q⟩ | ⟨rfl, q⟩
  · exact go 0 _ rfl rfl (q a v1)
  · exact go 1 _ rfl rfl (q b v2 v3)
  · exact go 2 _ rfl rfl (q i v4)
  · exact go 3 _ rfl rfl q
def rSetBag : V → V → V → Hp → (Hp → Prop) → Prop := fun o i v H Q => ∃ (p c : Addr), o = .ref p ∧ H p = some (.ext (BagO p c)) ∧
  ((i = .int 0 ∧ ∃ a, v = .int a ∧ 0 ≤ a) ∨ (i = .int 1 ∧ ∃ b, v = .int b ∧ 0 ≤ b ∧ b < 2147483647) ∨ (i = .int 2 ∧ ∃ j, v = .int j ∧ 0 ≤ j)) ∧ Q H
theorem set_bag {X : Cx} : PSet X rSetBag := by
  intro pins s σ H o i v ov iv u Q I ro ri rv h
  obtain ⟨p, c, rfl, hp, h, q⟩ := h
  obtain ⟨a, b, j, hv, I1⟩ := bag_open I hp
  obtain ⟨v1, v2, v3, v4⟩ := id hv
  have go : ∀ (k : Nat) (a' b' j' : Int), BagV a' b' j' → i = .int (k : Nat) → k < 4 → ([.int a, .int b, .int j, .ref c] : List V).set k v = [.int a', .int b', .int j', .ref c] →
      wpAny (model X.prog X.w) X.A (setItem ov iv u) (fun _ s' => ∃ H', Inv X pins σ H' s' ∧ Q H') X.xe s := by
    intro k a' b' j' hv' hi hk he
    subst hi
    have hix : ixN 4 ((k : Nat) : Int) = some k := by
      unfold ixN
      rw [if_pos (by omega), if_pos (by omega)]
      simp
    have r : rSetL (.ref p) (.int (k : Nat)) v (upd H p (.lst [.int a, .int b, .int j, .ref c])) (fun H' => H' = upd (upd H p (.lst [.int a, .int b, .int j, .ref c])) p (.lst [.int a', .int b', .int j', .ref c])) :=
      ⟨p, _, _, k, rfl, rfl, upd_same, hix, by rw [he]⟩
    refine thn (set_list pins s σ _ _ _ v ov iv u _ I1 ro ri rv r) fun w s' ⟨H', I2, hH⟩ => ?_
    subst hH
    exact ⟨H, bag_back hp hv' I2, q⟩
  rcases h with ⟨rfl, a', rfl, h1⟩ | ⟨rfl, b', rfl, h1, h2⟩ | ⟨rfl, j', rfl, h1⟩
  · exact go 0 a' b j ⟨h1, v2, v3, v4⟩ rfl (by decide) rfl
  · exact go 1 a b' j ⟨v1, h1, h2, v4⟩ rfl (by decide) rfl
  · exact go 2 a b j' ⟨v1, v2, v3, h1⟩ rfl (by decide) rfl
theorem pset_or {X : Cx} {t t' : TSet} (h : PSet X t) (h' : PSet X t') : PSet X (fun o i v H Q => t o i v H Q ∨ t' o i v H Q) :=
  fun pins s σ H o i v ov iv u Q I ro ri rv q => q.elim (h pins s σ H o i v ov iv u Q I ro ri rv) (h' pins s σ H o i v ov iv u Q I ro ri rv)
section
variable {X : Cx} {pins : List (Addr × Obj)} {σ : L2.St} {H : Hp} {s : Shared} {a b : Addr} {y v : V} {u : Value} {o : Option V} {A : Around} {E : Value → Shared → Prop}
theorem key_ofA {ks : List Key} (I : Inv X pins σ H s) (h : SqT X.K H b (ks.map kV)) : (tupleKind (mixKind X.prog X.w)).is s.heap ks b := by
  obtain ⟨its, r, ist, _⟩ := I.tuple h
  obtain ⟨o, h1, h2, n, h3⟩ := ist
  exact ⟨o, its.toArray, n, h1, h2, h3, by simpa using items_are r⟩
theorem d_getItemA {Q : Value → Shared → Prop} (hu : A.units + 1 < cLine) (I : Inv X pins σ H s) (g : DGetA X.K H a y (some v)) (ry : RelV y u) (h : ∀ w' s', Inv X pins σ H s' → RelV v w' → Q w' s') :
    wpAny (model X.prog X.w) A (getItem (.ref a) u) Q E s := by
  rcases g with g | ⟨kvs, k, b, e, ey, eb, l⟩
  · exact d_getItem hu I (.inl g) ry h
  · subst ey
    cases (show u = Value.ref b from ry)
    obtain ⟨z, hd, xs, rel, dd⟩ := dt_rd I.hok e
    obtain ⟨w', hw, rw'⟩ := RelO.some_of (v := v) (o := (atKey xs k).map (·.2)) (by rw [l]; exact rel.val k)
    obtain ⟨p, hp, hp2⟩ := Option.map_eq_some_iff.mp hw
    refine wpAny_getItem_heap (tupleKind_room_in1 hu) (key_ofA I eb) dd hp ?_
    rw [hp2]
    exact h w' _ (I.tok _) rw'
theorem d_inA {Q : Value → Shared → Prop} (hu : A.units + 1 < cLine) (I : Inv X pins σ H s) (g : DGetA X.K H a y o) (ry : RelV y u) (h : ∀ s', Inv X pins σ H s' → Q (.bool o.isSome) s') :
    wpAny (model X.prog X.w) A (compareOp .In u (.ref a)) Q E s := by
  rcases g with g | ⟨kvs, k, b, e, ey, eb, l⟩
  · exact d_in hu I (.inl g) ry h
  · subst ey
    cases (show u = Value.ref b from ry)
    obtain ⟨z, hd, xs, rel, dd⟩ := dt_rd I.hok e
    refine wpAny_in_heap (tupleKind_room_in1 hu) (key_ofA I eb) hd dd ?_
    have q := (rel.val k).isSome_eq
    rw [Option.isSome_map] at q
    rw [← q, ← l]
    exact h _ (I.tok _)
theorem d_notInA {Q : Value → Shared → Prop} (hu : A.units + 1 < cLine) (I : Inv X pins σ H s) (g : DGetA X.K H a y o) (ry : RelV y u) (h : ∀ s', Inv X pins σ H s' → Q (.bool (!o.isSome)) s') :
    wpAny (model X.prog X.w) A (compareOp .NotIn u (.ref a)) Q E s := by
  rcases g with g | ⟨kvs, k, b, e, ey, eb, l⟩
  · exact d_notIn hu I (.inl g) ry h
  · subst ey
    cases (show u = Value.ref b from ry)
    obtain ⟨z, hd, xs, rel, dd⟩ := dt_rd I.hok e
    refine PyProof.Rows.wpAny_notIn_heap (tupleKind_room_in1 hu) (key_ofA I eb) hd dd ?_
    have q := (rel.val k).isSome_eq
    rw [Option.isSome_map] at q
    rw [← q, ← l]
    exact h _ (I.tok _)
theorem dict_typeIsA (I : Inv X pins σ H s) (g : DGetA X.K H a y o) : s.TypeIs (.ref a) "dict" := by
  rcases g with ⟨kvs, k, e, _, _⟩ | ⟨kvs, k, b, e, _, _, _⟩
  · obtain ⟨_, _, vs, _, dd⟩ := dk_rd I.hok e
    exact dd.typeIs
  · obtain ⟨_, _, xs, _, dd⟩ := dt_rd I.hok e
    exact dd.typeIs
end
/-- d[y] -/
def rIxDic (K : PySem.W.Frag) : R2 := fun x y H Q => ∃ a v, x = .ref a ∧ DGetA K H a y (some v) ∧ Q v H
theorem ix_dic {X : Cx} (hu : X.A.units + 1 < cLine) : IxR X (rIxDic X.K) := by
  intro value slice pins s σ H x y v u Q I rx ry h hs
  obtain ⟨a, z, rfl, g, q⟩ := h
  obtain rfl : v = Value.ref a := rx
  unfold PyProof.Rows.subscriptTail
  refine wpAny_bind ?_
  have hT := dict_typeIsA I g
  rw [getitemInPython_of_ne hT.not_modules]
  refine wpAny_bind (wpAny_specialOf hT PySem.F.slot_dict_getitem.lookup ?_)
  have fin : wpAny (model X.prog X.w) X.A (subscripted slice false (.ref a) u) (fun r s₃ => wpAny (model X.prog X.w) X.A (letTemporaryGo value (.ref a) r >>= fun _ => pure r) (EP X pins σ Q) X.xe s₃) X.xe s := by
    rw [hs]
    refine wpAny_operating (d_getItemA hu I g ry fun w' s3 I3 rw' => wpAny_bind (wpAny_letTemporaryGo (wpAny_pure ⟨z, H, I3, rw', q⟩)))
  first
    | exact wpAny_pure (wpAny_bind fin)
    | exact wpAny_bind (wpAny_pure (wpAny_bind fin))
    | exact wpAny_bind fin
def rIxA (K : PySem.W.Frag) : R2 := fun x y H Q => (rIx K x y H Q ∨ rIxBag x y H Q) ∨ rIxDic K x y H Q
theorem qIxA {X : Cx} (K : PySem.W.Frag) (hu : X.A.units + 1 < cLine) (h : X.K = K := by rfl) : IxR X (rIxA K) := by subst h; exact .or (.or ix_seq ix_bag) (ix_dic hu)
/-- d[y] = v -/
def rSetDic : TSet := fun o i v H Q => ∃ a H', o = .ref a ∧ DPut H a i v H' ∧ Q H'
theorem set_dic {X : Cx} (hu : X.A.units + 1 < cLine) : PSet X rSetDic := by
  intro pins s σ H o i v ov iv u Q I ro ri rv h
  obtain ⟨a, H', rfl, g, q⟩ := h
  obtain rfl : ov = Value.ref a := ro
  exact d_setItem hu I g ri rv fun s' I' => ⟨H', I', q⟩
def rSetA : TSet := fun o i v H Q => (rSetL o i v H Q ∨ rSetBag o i v H Q) ∨ rSetDic o i v H Q
theorem qSet {X : Cx} (hu : X.A.units + 1 < cLine) : PSet X rSetA := pset_or (pset_or set_list set_bag) (set_dic hu)
section
variable {K : PySem.W.Frag} {δ : List Slot} {k : Res → Prop} {te ta tb : TE} {nx : List Slot → Prop} {rt : Res → Prop} {bk ct : List Slot → Prop}
inductive IxQ : Res → Res → (Res → Prop) → Prop
  | seq {x y : Res} {k : Res → Prop} : IxP x y k → IxQ x y k
  | bag0 {k : Res → Prop} : (∀ a : Int, 0 ≤ a → k (.dat (.int a))) → IxQ .bag (.dat (.int 0)) k
  | bag1 {k : Res → Prop} : (∀ b : Int, 0 ≤ b → b < 2147483647 → k (.dat (.int b))) → IxQ .bag (.dat (.int 1)) k
  | bag2 {k : Res → Prop} : (∀ i : Int, 0 ≤ i → k (.dat (.int i))) → IxQ .bag (.dat (.int 2)) k
  | bag3 {k : Res → Prop} : (∀ ns : List Int, Cells ns → k (.dat (.list (ns.map .int)))) → IxQ .bag (.dat (.int 3)) k
  | dic {x : Res} {t : Bool} {ds : List (PyData × PyData)} {key d : PyData} {k : Res → Prop} : x.dic = some (t, ds) → KeyR t ds key (some d) → k (.dat d) → IxQ x (.dat key) k
theorem ixq_lst {x : Res} {ds : List PyData} {i : Int} {d : PyData} (h1 : x.items = some ds) (h2 : atI ds i = some d) (g : k (.dat d)) : IxQ x (.dat (.int i)) k := .seq (.lst h1 h2 g)
theorem ixq_tup {ds : List PyData} {i : Int} {d : PyData} (h2 : atI ds i = some d) (g : k (.dat d)) : IxQ (.dat (.tuple ds)) (.dat (.int i)) k := .seq (.tup h2 g)
theorem opIxA : OpOk K (rIxA K) IxQ := by
  intro B H H1 x y rx ry k Q e0 e1 ox oy p q
  cases p with
  | seq p => exact .inl (.inl (opIx B H H1 x y rx ry k Q e0 e1 ox oy p q))
  | bag0 g =>
    obtain ⟨p, rfl, c, ns, h1, h2, h3⟩ := ox
    cases oy
    exact .inl (.inr ⟨p, c, ns, rfl, h1, h2, h3, .inl ⟨rfl, fun a ha => q _ _ _ (Same.refl _) rInt (g a ha)⟩⟩)
  | bag1 g =>
    obtain ⟨p, rfl, c, ns, h1, h2, h3⟩ := ox
    cases oy
    exact .inl (.inr ⟨p, c, ns, rfl, h1, h2, h3, .inr (.inl ⟨rfl, fun a ha hb => q _ _ _ (Same.refl _) rInt (g a ha hb)⟩)⟩)
  | bag2 g =>
    obtain ⟨p, rfl, c, ns, h1, h2, h3⟩ := ox
    cases oy
    exact .inl (.inr ⟨p, c, ns, rfl, h1, h2, h3, .inr (.inr (.inl ⟨rfl, fun a ha => q _ _ _ (Same.refl _) rInt (g a ha)⟩))⟩)
  | bag3 g =>
    obtain ⟨p, rfl, c, ns, h1, h2, h3⟩ := ox
    cases oy
    exact .inl (.inr ⟨p, c, ns, rfl, h1, h2, h3, .inr (.inr (.inr ⟨rfl, q _ _ _ (Same.refl _) (rLst h2 (ImAll.ints ns)) (g ns h3)⟩))⟩)
  | dic hx hk g =>
    obtain ⟨p, ob, rfl, h1, h2⟩ := ox.dicR (e0.trans e1) hx
    rcases dget_of h2 h1 oy hk with ⟨z, _⟩ | ⟨w, x, z, h3, h4⟩
    · cases z
    · cases z
      exact .inr ⟨p, w, rfl, h3, q _ _ _ (Same.refl _) (rIm h4) g⟩
theorem slot_bag {B H : Hp} {σ : L2.St} {i : Nat} (R : Rel K B H σ δ) (h : δ[i]? = some .bag) : ∃ (p c : Addr) (ns : List Int), σ[i]? = some (some (.ref p)) ∧ H p = some (.ext (BagO p c)) ∧ FzL H c (ns.map V.int) ∧ Cells ns := by
  obtain ⟨p, h1, c, ns, h2, h3, h4⟩ := R.at_ i _ h
  refine ⟨p, c, ns, ?_, h2, h3, h4⟩
  cases hz : σ[i]? with
  | none => rw [hz] at h1; cases h1
  | some o => rw [hz] at h1; exact congrArg some h1
/-- xs[j] = d of an owned list, of the bag -/
theorem gs_subA {i : Nat} {ti : TE} {d : PyData} {ds : List PyData} {k : List Slot → Prop} (hi : δ[i]? = some (.own ds)) (h : EvC K ti δ fun y => ∃ (n : Int) (j : Nat), y = .dat (.int n) ∧ ixN ds.length n = some j ∧ k (δ.set i (.own (ds.set j d)))) :
    GS K (gSub (tVar i) ti rSetA) (.dat d) δ k := by
  intro B H H1 σ v R e o Q q
  obtain ⟨w, hw, g⟩ := gs_sub hi h B H H1 σ v R e o Q q
  obtain ⟨p, vs, hp, hb, hv, im⟩ := slot_own (R.grow e) hi
  rw [hp] at hw
  cases hw
  refine ⟨_, hp, ?_⟩
  refine h B H1 σ (R.grow e) _ fun y H2 ry e2 oy ⟨n, j, hy, hn, hk⟩ => ?_
  subst hy
  cases oy
  have hv2 := e2.at_ _ _ hv
  have im2 := im.to (per_same e2)
  refine .inl (.inl ⟨p, vs, n, j, rfl, rfl, hv2, by rw [im2.length]; exact hn, ?_⟩)
  exact q _ _ _ (((R.grow e).grow e2).mut hi hp hv2 (ImAll.set (Im.to o (per_same e2)) j im2)) ((per_same e2).trans (per_upd hv2 rfl)) hk
/-- d[y] = x, d an owned dict -/
theorem gs_subD {i : Nat} {ti : TE} {t : Bool} {d : PyData} {ds : List (PyData × PyData)} {k : List Slot → Prop} (hi : δ[i]? = some (.ownD t ds)) (h : EvC K ti δ fun y => ∃ (key : PyData) (es : List (PyData × PyData)), y = .dat key ∧ PutR t ds key d es ∧ k (δ.set i (.ownD t es))) :
    GS K (gSub (tVar i) ti rSetA) (.dat d) δ k := by
  intro B H H1 σ v R e o Q q
  have R1 := R.grow e
  obtain ⟨p, ob, hp, hb, hv, im⟩ := slot_ownD R1 hi
  refine ⟨_, hp, h B H1 σ R1 _ fun y H2 ry e2 oy ⟨key, es, hy, pr, hk⟩ => ?_⟩
  subst hy
  have hv2 := e2.at_ _ _ hv im.free.2
  have im2 := im.per (per_same e2)
  obtain ⟨o', g, di⟩ := dput_of im2 hv2 (show Im K H2 y key from oy) (Im.to o (per_same e2)) pr
  exact .inr ⟨p, _, rfl, g, q _ _ _ ((R1.grow e2).mutD hi hp hv2 im2.free.1 di) ((per_same e2).trans (per_upd hv2 im2.free.1)) hk⟩
/-- d[(a, b)] = v: a key that is just made -/
theorem gs_subDT {i : Nat} {ta : TA} {d : PyData} {kds : List (List Key × PyData)} {k : List Slot → Prop} (hi : δ[i]? = some (.ownD true (tvD kds))) (h : EvA K ta δ fun rs => ∃ ks : List Key, dats rs = some (ks.map kD) ∧ ks.length ≤ 1000 ∧ kds.length < 1000000 ∧ k (δ.set i (.ownD true (tvD (putG kds ks d))))) :
    GS K (gSub (tVar i) (tTup ta) rSetA) (.dat d) δ k := by
  intro B H H1 σ v R e o Q q
  have R1 := R.grow e
  obtain ⟨p, ob, hp, hb, hv, im⟩ := slot_ownD R1 hi
  refine ⟨_, hp, h B H1 σ R1 _ fun us H2 rs e2 o2 ⟨ks, hd, hl, hz, hk⟩ => ?_⟩
  have imk := dats_im o2 hd
  have ek := im_kDs imk
  subst ek
  refine ⟨by rw [List.length_map]; exact Nat.le_of_lt (small1000 hl), fun r hr => ?_⟩
  have e3 : Same H2 (upd H2 r (.tup (ks.map kV))) := same_new hr
  have e23 := e2.trans e3
  have hv2 := e23.at_ _ _ hv im.free.2
  have im2 := im.per (per_same e23)
  obtain ⟨kvs, rfl, kp⟩ := im2.invt
  have ov : Im K (upd H2 r (.tup (ks.map kV))) v d := Im.to o (per_same e23)
  have di : DicIs K (upd H2 r (.tup (ks.map kV))) true (.dT (putK kvs ks v)) (tvD (putG kds ks d)) := .t (kp.put ks ov)
  have g : DPut (upd H2 r (.tup (ks.map kV))) p (.ref r) v (upd (upd H2 r (.tup (ks.map kV))) p (.dT (putK kvs ks v))) := .inr ⟨kvs, ks, r, hv2, rfl, upd_same, by rw [kp.len]; exact Nat.lt_trans hz (by decide), rfl⟩
  exact .inr ⟨p, _, rfl, g, q _ _ _ ((R1.grow e23).mutD hi hp hv2 im2.free.1 di) ((per_same e23).trans (per_upd hv2 im2.free.1)) hk⟩
def BagPut : Int → Int → Prop := fun j n => (j = 0 ∧ 0 ≤ n) ∨ (j = 1 ∧ 0 ≤ n ∧ n < 2147483647) ∨ (j = 2 ∧ 0 ≤ n)
theorem bagput {p c : Addr} {H : Hp} {j n : Int} {Q : Hp → Prop} (h1 : H p = some (.ext (BagO p c))) (hp : BagPut j n) (q : Q H) : rSetA (.ref p) (.int j) (.int n) H Q := by
  refine .inl (.inr ⟨p, c, rfl, h1, ?_, q⟩)
  rcases hp with ⟨rfl, h⟩ | ⟨rfl, h⟩ | ⟨rfl, h⟩
  · exact .inl ⟨rfl, n, rfl, h⟩
  · exact .inr (.inl ⟨rfl, n, rfl, h⟩)
  · exact .inr (.inr ⟨rfl, n, rfl, h⟩)
theorem gs_subBag {i : Nat} {ti : TE} {n : Int} {k : List Slot → Prop} (hi : δ[i]? = some .bag) (h : EvC K ti δ fun y => ∃ j : Int, y = .dat (.int j) ∧ BagPut j n ∧ k δ) : GS K (gSub (tVar i) ti rSetA) (.dat (.int n)) δ k := by
  intro B H H1 σ v R e o Q q
  cases o
  obtain ⟨p, c, ns, hp, h1, h2, h3⟩ := slot_bag (R.grow e) hi
  refine ⟨_, hp, h B H1 σ (R.grow e) _ fun y H2 ry e2 oy ⟨j, hy, hj, hk⟩ => ?_⟩
  subst hy
  cases oy
  exact bagput (e2.at_ _ _ h1) hj (q _ _ _ ((R.grow e).grow e2) (per_same e2) hk)
/-- bag[2] += 1 -/
def rGetA (K : PySem.W.Frag) : V → V → Hp → VK → Prop := fun o i H Q => rIxBag o i H Q
theorem get_bag {X : Cx} : PGet X rIxBag := by
  intro pins s σ H o i ov iv Q I ro ri h
  obtain ⟨p, c, ns, rfl, hp, hc, hn, h⟩ := h
  obtain ⟨a, b, j, hv, I1⟩ := bag_open I hp
  obtain ⟨v1, v2, v3, v4⟩ := id hv
  cases ro
  obtain ⟨its, rv, pl, hz⟩ := I1.list (SqL.of upd_same)
  have go : ∀ (k : Nat) (z : V), ([.int a, .int b, .int j, .ref c] : List V)[k]? = some z → i = .int (k : Nat) → k < 4 → Q z H → wpAny (model X.prog X.w) X.A (getItem (.ref p) iv) (EP X pins σ Q) X.xe s := by
    intro k z hz' hi hk q
    subst hi
    obtain ⟨t, rfl⟩ := ri
    obtain ⟨u, hu, ru⟩ := rv.get hz'
    exact PySem.wpAny_getItem_list pl.isList (by omega) (by omega) (by simpa using hu) ⟨z, H, I, ru, q⟩
  rcases h with ⟨rfl, q⟩ | ⟨rfl, q⟩ | ⟨rfl, q⟩ | ⟨rfl, q⟩
  · exact go 0 _ rfl rfl (by decide) (q a v1)
  · exact go 1 _ rfl rfl (by decide) (q b v2 v3)
  · exact go 2 _ rfl rfl (by decide) (q j v4)
  · exact go 3 _ rfl rfl (by decide) q
theorem sd_augBag {i : Nat} {f : Int → Int → Int} (hi : δ[i]? = some .bag) (h : EvC K te δ fun x => ∃ b, x = .dat (.int b) ∧ ∀ a : Int, 0 ≤ a → 0 ≤ f a b ∧ nx δ) : SD K (tAugS (tVar i) (tC (.int 2)) te rIxBag (ipI f) rSetA) ⟨nx, rt, bk, ct⟩ δ := by
  intro B H σ R E C
  obtain ⟨p, c, ns, hp, h1, h2, h3⟩ := slot_bag R hi
  refine ⟨_, hp, ⟨p, c, ns, rfl, h1, h2, h3, .inr (.inr (.inl ⟨rfl, fun a ha => ?_⟩))⟩⟩
  refine h B H σ R _ fun x H2 rx e2 ox ⟨b, hx, hk⟩ => ?_
  subst hx
  cases ox
  obtain ⟨g1, g2⟩ := hk a ha
  exact ⟨a, b, rfl, rfl, bagput (e2.at_ _ _ h1) (.inr (.inr ⟨rfl, g1⟩)) (C.nx _ _ _ (R.grow e2) g2)⟩

/-! ### the bag is made -/
def tBagC (te : TE) : TE := fun σ H Q => te σ H fun v H1 => ∃ (p c : Addr) (a b i : Int), v = .ref p ∧ H1 p = some (.lst [.int a, .int b, .int i, .ref c]) ∧ BagV a b i ∧ Q v (upd H1 p (.ext (BagO p c)))
theorem pe_bagc {X : Cx} {e : Expr} {te : TE} (h : PE X e te) : PE X e (tBagC te) := by
  refine ⟨fun pins s σ H Q I hq => ?_⟩
  refine thn (h.run pins s σ H _ I hq) fun u s' ⟨v, H1, I1, rv, p, c, a, b, i, hv, hp, hb, q⟩ => ?_
  exact ⟨v, _, bag_close I1 hp hb, rv, q⟩
theorem ec_bagc (h : EvC K te δ fun x => ∃ (a b i : Int) (ns : List Int), x = .fresh [.int a, .int b, .int i, .list (ns.map .int)] ∧ BagV a b i ∧ Cells ns ∧ k .bag) : EvC K (tBagC te) δ k := by
  intro B H σ R Q q
  refine h B H σ R _ fun v H1 x e o ⟨a, b, i, ns, hx, hb, hn, hk⟩ => ?_
  subst hx
  obtain ⟨p, vs, rfl, h1, h2, im⟩ := o
  cases im with
  | cons i1 im => cases im with
    | cons i2 im => cases im with
      | cons i3 im => cases im with
        | cons i4 im =>
          cases im
          cases i1; cases i2; cases i3
          cases i4 with
          | lst hf ha =>
            rw [ha.of_ints] at hf
            refine ⟨p, _, a, b, i, rfl, h2, hb, q _ _ .bag (same_lst e h1 h2) ⟨p, rfl, _, ns, upd_same, ?_, hn⟩ hk⟩
            · obtain ⟨ob, hf⟩ := hf
              refine ⟨ob, ?_⟩
              rw [upd_ne fun z => by rw [z, h2] at hf; cases hf]
              exact hf
/-! ### * once more: one side within 2 ^ 64 -/
def rMulA (K : PySem.W.Frag) : R2 := fun x y H Q => rMul K x y H Q ∨ rI CMul (fun i j => .int (i * j)) x y H Q
theorem qMulA {X : Cx} (K : PySem.W.Frag) (h : X.K = K := by rfl) : OpR X (binaryOp .Mult) (rMulA K) := by subst h; exact .or oMul op_mul
inductive MulQ : Res → Res → (Res → Prop) → Prop
  | w {x y : Res} {k : Res → Prop} : MulP x y k → MulQ x y k
  | c {i j : Int} {k : Res → Prop} : CMul i j → k (.dat (.int (i * j))) → MulQ (.dat (.int i)) (.dat (.int j)) k
theorem opMulA : OpOk K (rMulA K) MulQ := by
  intro B H H1 x y rx ry k Q e0 e1 ox oy p q
  cases p with
  | w p => exact .inl (opMul B H H1 x y rx ry k Q e0 e1 ox oy p q)
  | c hc g =>
    cases ox; cases oy
    exact .inr ⟨_, _, rfl, rfl, hc, q _ _ _ (Same.refl _) rInt g⟩
theorem mulq_l {i j : Int} (h1 : -(2 ^ 64) < i) (h2 : i < 2 ^ 64) (g : k (.dat (.int (i * j)))) : MulQ (.dat (.int i)) (.dat (.int j)) k := .c (.inl ⟨h1, h2⟩) g
theorem mulq_r {i j : Int} (h1 : -(2 ^ 64) < j) (h2 : j < 2 ^ 64) (g : k (.dat (.int (i * j)))) : MulQ (.dat (.int i)) (.dat (.int j)) k := .c (.inr ⟨h1, h2⟩) g
theorem mulq_w {i j : Int} (h : CMulW i j) (g : k (.dat (.int (i * j)))) : MulQ (.dat (.int i)) (.dat (.int j)) k := .w (.int h g)

/-! ### in, not in: a list -/
theorem qIn {X : Cx} (K : PySem.W.Frag) (hu : X.A.units + 65 < cLine) (h : X.K = K := by rfl) : OpR X (compareOp .In) (rInD K) := by subst h; exact op_inD hu
theorem qNotIn {X : Cx} (K : PySem.W.Frag) (hu : X.A.units + 65 < cLine) (h : X.K = K := by rfl) : OpR X (compareOp .NotIn) (rNotInD K) := by subst h; exact op_notInD hu
inductive InP (f : Bool → Bool) : Res → Res → (Res → Prop) → Prop
  | lst {x y : Res} {d : PyData} {ds : List PyData} {k : Res → Prop} : x.data = some d → y.items = some ds → SeqAt.shaped d = true → SeqAt.shaped (.list ds) = true → k (.dat (.bool (f (ds.any fun z => PyData.eqv z d)))) → InP f x y k
theorem items_data {y : Res} {ds : List PyData} (h : y.items = some ds) : y.data = some (.list ds) := by
  cases y with
  | dat d => cases d <;> cases h; rfl
  | bor _ => cases h; rfl
  | len _ => cases h; rfl
  | fresh _ => cases h; rfl
  | _ => cases h
theorem opIn : OpOk K (rInD K) (InP id) := by
  intro B H H1 x y rx ry k Q e0 e1 ox oy p q
  cases p with
  | lst hx hy sx sy g => exact ⟨_, _, ox.dp (e0.trans e1) hx (nd_of_shaped sx), oy.dp (e0.trans e1) (items_data hy) (nd_of_shaped sy), sx, sy, q _ _ _ (Same.refl _) rBl g⟩
theorem opNotIn : OpOk K (rNotInD K) (InP not) := by
  intro B H H1 x y rx ry k Q e0 e1 ox oy p q
  cases p with
  | lst hx hy sx sy g => exact ⟨_, _, ox.dp (e0.trans e1) hx (nd_of_shaped sx), oy.dp (e0.trans e1) (items_data hy) (nd_of_shaped sy), sx, sy, q _ _ _ (Same.refl _) rBl g⟩

/-! ### xs.insert(i, e); f(..).append(e) -/
def rInsert : V → List V → Hp → VK → Prop := fun x vs H Q => ∃ (l : Addr) (xs : List V) (i : Int) (y : V), x = .ref l ∧ vs = [.int i, y] ∧ H l = some (.lst xs) ∧ xs.length < sizeLine ∧ 0 ≤ i ∧ i < 2 ^ 63 ∧
  Q .non (upd H l (.lst (xs.take i.toNat ++ [y] ++ xs.drop i.toNat)))
theorem mInsert {X : Cx} : MtR X "list.insert" rInsert := mt_insert
theorem sd_insert {i : Nat} {ds : List PyData} (hi : δ[i]? = some (.own ds)) (hz : ds.length < 1000000) (h : EvC K ta δ fun x => EvC K te δ fun y => ∃ (n : Int) (d : PyData), x = .dat (.int n) ∧ y = .dat d ∧ 0 ≤ n ∧ n < 2 ^ 63 ∧ nx (δ.set i (.own (ds.take n.toNat ++ [d] ++ ds.drop n.toNat)))) :
    SD K (tDrop (tBM K "list" rInsert (tVar i) (tCons ta (tCons te tNil)))) ⟨nx, rt, bk, ct⟩ δ := by
  intro B H σ R E C
  obtain ⟨p, vs, hp, hb, hv, im⟩ := slot_own R hi
  refine ⟨_, hp, .inl ⟨rfl, vs, SqL.of hv⟩, h B H σ R _ fun x H1 rx e o g => ?_⟩
  refine g B H1 σ (R.grow e) _ fun y H2 ry e2 o2 ⟨n, d, hx, hy, h1, h2, hk⟩ => ?_
  subst hx hy
  cases o
  have hv2 := e2.at_ _ _ (e.at_ _ _ hv)
  have im2 := im.to (per_same (e.trans e2))
  refine ⟨p, vs, n, y, rfl, rfl, hv2, by rw [im.length]; exact Nat.lt_trans hz (by decide), h1, h2, C.nx _ _ _ ((R.grow (e.trans e2)).mut hi hp hv2 ?_) hk⟩
  exact ((im2.take _).append (.one o2)).append (im2.drop _)
theorem sd_appFresh {tf : TE} {t1 : TE} (h : EvC K tf δ fun x => ∃ ds, x = .fresh ds ∧ ds.length < 1000000 ∧ EvC K t1 δ fun y => ∃ d, y = .dat d ∧ nx δ) : SD K (tDrop (tBM K "list" rAppend tf (tCons t1 tNil))) ⟨nx, rt, bk, ct⟩ δ := by
  intro B H σ R E C
  refine h B H σ R _ fun x H1 rx e o ⟨ds, hx, hz, g⟩ => ?_
  subst hx
  obtain ⟨p, vs, rfl, h1, h2, im⟩ := o
  refine ⟨.inl ⟨rfl, vs, SqL.of h2⟩, g B H1 σ (R.grow e) _ fun y H2 ry e2 o2 ⟨d, hy, hk⟩ => ?_⟩
  subst hy
  refine ⟨p, vs, y, rfl, rfl, e2.at_ _ _ h2, by rw [im.length]; exact Nat.lt_trans hz (by decide), C.nx _ _ _ (R.grow (same_lst (e.trans e2) h1 (e2.at_ _ _ h2))) hk⟩
end
end Dl

/-! own layer: comprehensions in use -/
namespace Dl
variable [LamT] [XR]
open PySem PySem.Spec L2
section
variable {K : PySem.W.Frag} {δ : List Slot} {k : Res → Prop} {te ta tb : TE} {g : TG} {tt : TT} {ds : List PyData} {vs : List Nat}
theorem et_yes {kb : Bool → Prop} (q : kb true) : EvT K tYes δ kb := fun B H σ R Q g => g true H (Same.refl H) q
theorem ite_r1 {ta : TA} {k : List PyData → Prop} (h : EvA K ta δ fun rs => ∃ j : Int, rs = [.dat (.int j)] ∧ -(2 ^ 62) ≤ j ∧ j < 2 ^ 62 ∧ k (rgD 0 j.toNat)) : ItE K (iRng1 ta) δ k := (itl_r1 h).toE
theorem ite_r2 {ta : TA} {k : List PyData → Prop} (h : EvA K ta δ fun rs => ∃ i j : Int, rs = [.dat (.int i), .dat (.int j)] ∧ (-(2 ^ 62) ≤ i ∧ i < 2 ^ 62 ∧ -(2 ^ 62) ≤ j ∧ j < 2 ^ 62) ∧ k (rgD i (j - i).toNat)) : ItE K (iRng2 ta) δ k := (itl_r2 h).toE
theorem GE.imp {x : Res} {W : Nat → Prop} {k k' : List Slot → Prop} (h : GE K g x δ W k) (hk : ∀ δ', k δ' → k' δ') : GE K g x δ W k' :=
  fun B H H1 σ v R e o Q q => h B H H1 σ v R e o Q fun σ' δ' R' hl hw kd => q σ' δ' R' hl hw (hk δ' kd)
/-- every item gives one: what is known of each -/
theorem lc_all (P : Nat → PyData → Prop) (hz : ds.length ≤ 1000000) (h : ∀ (i : Nat) (d : PyData), ds[i]? = some d → GE K g (.dat d) (wipeS δ vs) (fun j => j ∈ vs) fun δ' => EvC K te δ' fun r => ∃ e, r = .dat e ∧ P i e)
    (hk : ∀ out : List PyData, out.length = ds.length → (∀ (i : Nat) (e : PyData), out[i]? = some e → P i e) → k (.fresh out)) : LcP K ds g tYes te vs δ k := by
  refine ⟨fun i acc => acc.length = i ∧ ∀ (j : Nat) (e : PyData), acc[j]? = some e → P j e, ⟨rfl, fun j e z => by simp at z⟩, hz, fun i d acc hd ⟨hl, ha⟩ => ?_, fun out ⟨hl, ha⟩ => hk out hl ha⟩
  refine (h i d hd).imp fun δ' ev => et_yes (Br.t (ev.imp fun r ⟨e, hr, pe⟩ => ⟨e, hr, by simp [hl], fun j x hx => ?_⟩))
  by_cases hj : j < acc.length
  · rw [List.getElem?_append_left hj] at hx
    exact ha j x hx
  · rw [List.getElem?_append_right (by omega)] at hx
    have : j = i := by
      have := (List.getElem?_eq_some_iff.mp hx).1
      simp at this
      omega
    subst this
    rw [hl, Nat.sub_self] at hx
    simp at hx
    rw [← hx]
    exact pe
/-- every item gives one: the list told -/
theorem lc_fn (out : List PyData) (hl : out.length = ds.length) (hz : ds.length ≤ 1000000) (h : ∀ (i : Nat) (d : PyData), ds[i]? = some d → GE K g (.dat d) (wipeS δ vs) (fun j => j ∈ vs) fun δ' => EvC K te δ' fun r => ∃ e, r = .dat e ∧ out[i]? = some e)
    (hk : k (.fresh out)) : LcP K ds g tYes te vs δ k := by
  refine lc_all (fun i e => out[i]? = some e) hz h fun o ho ha => ?_
  have : o = out := by
    refine List.ext_getElem? fun i => ?_
    by_cases hi : i < o.length
    · rw [List.getElem?_eq_getElem hi]
      exact (ha i _ (List.getElem?_eq_getElem hi)).symm
    · rw [List.getElem?_eq_none (by omega), List.getElem?_eq_none (by omega)]
  rw [this]
  exact hk
/-- with a test -/
theorem lc_fm (F : PyData → Option PyData) (hz : ds.length ≤ 1000000) (h : ∀ (i : Nat) (d : PyData), ds[i]? = some d → GE K g (.dat d) (wipeS δ vs) (fun j => j ∈ vs) fun δ' => EvT K tt δ' fun b => Br b (EvC K te δ' fun r => ∃ e, r = .dat e ∧ F d = some e) (F d = none))
    (hk : k (.fresh (ds.filterMap F))) : LcP K ds g tt te vs δ k := by
  refine ⟨fun i acc => acc = (ds.take i).filterMap F, rfl, hz, fun i d acc hd ha => ?_, fun out ho => ?_⟩
  · subst ha
    refine (h i d hd).imp fun δ' ev => ev.imp fun b br => ⟨fun hb => (br.1 hb).imp fun r ⟨e, hr, he⟩ => ⟨e, hr, ?_⟩, fun hb => ?_⟩
    · show _ = List.filterMap F (ds.take (i + 1))
      rw [List.take_add_one, hd, List.filterMap_append]
      simp [he]
    · show _ = List.filterMap F (ds.take (i + 1))
      rw [List.take_add_one, hd, List.filterMap_append]
      simp [br.2 hb]
  · subst ho
    rw [List.take_length]
    exact hk
end
end Dl

/-! own layer: what the draws of every law have in common -/
namespace Dl
variable [LamT] [XR]
open PySem PySem.Spec L2
section
variable {K : PySem.W.Frag} {δ : List Slot} {k : Res → Prop}
theorem intsP {P : Int → Prop} : ∀ (out : List PyData), (∀ (i : Nat) (e : PyData), out[i]? = some e → ∃ n, e = .int n ∧ P n) → ∃ ns : List Int, out = ns.map .int ∧ ∀ n ∈ ns, P n
  | [], _ => ⟨[], rfl, by simp⟩
  | d :: r, h => by
    obtain ⟨n, rfl, hn⟩ := h 0 d rfl
    obtain ⟨ns, rfl, hs⟩ := intsP r fun i e he => h (i + 1) e he
    exact ⟨n :: ns, rfl, by simpa using ⟨hn, hs⟩⟩
theorem cut_len (ds : List PyData) (m : Int) (h0 : 0 ≤ m) : (cutD ds none (some m)).length ≤ m.toNat := by
  unfold cutD HT.sIx
  simp only [List.length_take, List.length_drop]
  split <;> omega
theorem cut_mem {ds : List PyData} {lo hi : Option Int} {i : Nat} {d : PyData} (h : (cutD ds lo hi)[i]? = some d) : d ∈ ds :=
  List.mem_of_mem_drop (List.mem_of_mem_take (List.mem_of_getElem? h))
theorem cut_ints (ns : List Int) (lo hi : Option Int) : ∃ ms : List Int, cutD (ns.map PyData.int) lo hi = ms.map .int ∧ ∀ m ∈ ms, m ∈ ns := by
  unfold cutD
  rw [← List.map_drop, ← List.map_take]
  exact ⟨_, rfl, fun m hm => List.mem_of_mem_drop (List.mem_of_mem_take hm)⟩
theorem sd_join {t u : TS} {nx : List Slot → Prop} {rt : Res → Prop} {bk ct : List Slot → Prop} (δ0 : List Slot) (h : SD K t ⟨fun δ' => Wk δ' δ0, rt, bk, ct⟩ δ) (h2 : SD K u ⟨nx, rt, bk, ct⟩ δ0) : SD K (tSeq t u) ⟨nx, rt, bk, ct⟩ δ :=
  sd_mid _ h fun _ w => sd_wk w h2
theorem Br.dec {p : Prop} [Decidable p] {X Y : Prop} (h1 : p → X) (h2 : ¬ p → Y) : Br (decide p) X Y := ⟨fun h => h1 (of_decide_eq_true h), fun h => h2 (of_decide_eq_false h)⟩
theorem Br.nec {p : Prop} [Decidable p] {X Y : Prop} (h1 : ¬ p → X) (h2 : p → Y) : Br (!decide p) X Y := ⟨fun h => h1 (by simpa using h), fun h => h2 (by simpa using h)⟩
theorem Br.nei {i : Int} {X Y : Prop} (h1 : i ≠ 0 → X) (h2 : i = 0 → Y) : Br (i != 0) X Y := ⟨fun h => h1 (by simpa using h), fun h => h2 (by simpa using h)⟩
theorem Br.var {b : Bool} {X Y : Prop} (h1 : b = true → X) (h2 : b = false → Y) : Br b X Y := ⟨h1, h2⟩
theorem cut_le (ds : List PyData) (lo hi : Option Int) : (cutD ds lo hi).length ≤ ds.length := by
  unfold cutD
  simp only [List.length_take, List.length_drop]
  omega
theorem cell_first {ns : List Int} (ms : List Int) (h : ∀ n ∈ ns, 0 ≤ n) (hm : ∀ m ∈ ms, m ∈ ns) : ∃ c : Int, atI (ms.map PyData.int ++ [.int 0]) 0 = some (.int c) ∧ 0 ≤ c := by
  cases ms with
  | nil => exact ⟨0, rfl, by decide⟩
  | cons c r => exact ⟨c, atI_nat (j := 0) (by simp), h c (hm c (by simp))⟩
/-- data with a short text -/
structure Small (L D : Nat) (d : PyData) : Prop where
  sh : d.showable = true
  cl : d.canLay0 = true
  sl : d.shown.length ≤ L
  dp : d.depth ≤ D
theorem Small.mono {L L' D D' : Nat} {d : PyData} (h : Small L D d) (h1 : L ≤ L') (h2 : D ≤ D') : Small L' D' d := ⟨h.sh, h.cl, Nat.le_trans h.sl h1, Nat.le_trans h.dp h2⟩
theorem Small.tells {L D : Nat} {d : PyData} (h : Small L D d) (h1 : L ≤ 16777216) (h2 : D ≤ 60) : Tells d :=
  ⟨h.sh, Nat.le_trans h.sl (Nat.le_trans h1 (by decide)), by
    unfold SeqAt.shaped
    rw [h.cl]
    exact decide_eq_true (Nat.le_trans (Nat.le_trans h.dp h2) (by decide)), Nat.le_trans h.dp h2⟩
theorem small_int {i : Int} (k : Nat) (hk : 0 < k) (h9 : k ≤ 570) (h : i.natAbs < 10 ^ k) : Small (k + 1) 0 (.int i) := by
  refine ⟨?_, by simp [PyData.canLay0], ?_, by simp [PyData.depth]⟩
  · simp only [PyData.showable, decide_eq_true_eq]
    refine log2_small (Nat.lt_of_lt_of_le h ?_)
    exact Nat.le_trans (Nat.pow_le_pow_right (by decide) h9) (by decide +kernel)
  · rw [PyData.shown_int]
    show (Str.ofString (toString i)).length ≤ _
    rw [ofString_length]
    exact int_text_length_le10 hk h
theorem small_bool {b : Bool} : Small 6 0 (.bool b) := ⟨by simp [PyData.showable], by simp [PyData.canLay0], by rw [PyData.shown_bool]; cases b <;> decide +kernel, by simp [PyData.depth]⟩
theorem small_none : Small 6 0 .none := ⟨by simp [PyData.showable], by simp [PyData.canLay0], by rw [PyData.shown_none]; decide +kernel, by simp [PyData.depth]⟩
theorem small_all {L D : Nat} : ∀ {ds : List PyData}, (∀ d ∈ ds, Small L D d) → PyData.showableAll ds = true ∧ PyData.canLayAll0 ds = true ∧ ((PyData.shownAll ds).map (·.length)).sum ≤ L * ds.length ∧ PyData.depthAll ds ≤ D
  | [], _ => by simp [PyData.showableAll, PyData.canLayAll0, PyData.shownAll, PyData.depthAll]
  | d :: r, h => by
    obtain ⟨h1, h2, h3, h4⟩ := small_all fun x hx => h x (List.mem_cons_of_mem _ hx)
    have z := h d (by simp)
    simp only [PyData.showableAll, PyData.canLayAll0, PyData.shownAll, PyData.depthAll, Bool.and_eq_true, List.map_cons, List.sum_cons, List.length_cons]
    refine ⟨⟨z.sh, h1⟩, ⟨z.cl, h2⟩, ?_, Nat.max_le.mpr ⟨z.dp, h4⟩⟩
    have := z.sl
    rw [Nat.mul_add, Nat.mul_one]
    omega
theorem small_tup {L D : Nat} {ds : List PyData} (n : Nat) (hn : ds.length ≤ n) (h : ∀ d ∈ ds, Small L D d) : Small ((L + 2) * n + 3) (D + 1) (.tuple ds) := by
  obtain ⟨h1, h2, h3, h4⟩ := small_all h
  refine ⟨by simpa only [PyData.showable] using h1, by simpa only [PyData.canLay0] using h2, ?_, by simp only [PyData.depth]; omega⟩
  simp only [PyData.shown]
  refine Nat.le_trans (tupleText_len_le _) ?_
  rw [PyData.shownAll_length, Nat.add_mul]
  have := Nat.mul_le_mul_left L hn
  omega
theorem small_lst {L D : Nat} {ds : List PyData} (n : Nat) (hn : ds.length ≤ n) (h : ∀ d ∈ ds, Small L D d) : Small ((L + 2) * n + 3) (D + 1) (.list ds) := by
  obtain ⟨h1, h2, h3, h4⟩ := small_all h
  refine ⟨by simpa only [PyData.showable] using h1, by simpa only [PyData.canLay0] using h2, ?_, by simp only [PyData.depth]; omega⟩
  simp only [PyData.shown]
  refine Nat.le_trans (listText_len_le _) ?_
  rw [PyData.shownAll_length, Nat.add_mul]
  have := Nat.mul_le_mul_left L hn
  omega
theorem eqv_self {d : PyData} (h : Tells d) : PyData.eqv d d = true := SeqAt.eqv_refl d (SeqAt.canLay_of_shaped h.shaped)
/-! ### ==: words too -/
def rEqA (K : PySem.W.Frag) : R2 := fun x y H Q => rEqD K x y H Q ∨ rEq x y H Q
theorem qEqA {X : Cx} (K : PySem.W.Frag) (hu : X.A.units + 64 < cLine) (h : X.K = K := by rfl) : OpR X (compareOp .Eq) (rEqA K) := by subst h; exact .or (oEq hu) op_eq
inductive EqQ : Res → Res → (Res → Prop) → Prop
  | d {x y : Res} {k : Res → Prop} : EqP x y k → EqQ x y k
  | s {x y : Str} {k : Res → Prop} : k (.dat (.bool (decide (x = y)))) → EqQ (.dat (.str x)) (.dat (.str y)) k
theorem eqq_i {i j : Int} (g : k (.dat (.bool (decide (i = j))))) : EqQ (.dat (.int i)) (.dat (.int j)) k := .d (.int g)
theorem eqq_g {x y : Res} {d e : PyData} (h1 : x.data = some d) (h2 : y.data = some e) (h3 : SeqAt.shaped d = true) (h4 : SeqAt.shaped e = true) (g : k (.dat (.bool (PyData.eqv d e)))) : EqQ x y k := .d (.gen h1 h2 h3 h4 g)
theorem opEqA : OpOk K (rEqA K) EqQ := by
  intro B H H1 x y rx ry k Q e0 e1 ox oy p q
  cases p with
  | d p => exact .inl (opEq B H H1 x y rx ry k Q e0 e1 ox oy p q)
  | s g =>
    cases ox; cases oy
    refine .inr ⟨rfl, q _ _ _ (Same.refl _) rBl ?_⟩
    rw [dec_str]
    exact g
inductive ArgD : Res → PyData → Prop
  | dat {d : PyData} : ArgD (.dat d) d
  | bor {ds : List PyData} : ArgD (.bor ds) (.list ds)
omit [XR] in
def sp_alike : ASp := fun rs k => ∃ (x y : Res) (d : PyData), rs = [x, y] ∧ ArgD x d ∧ ArgD y d ∧ Tells d ∧ k (.dat (.bool true))
omit [XR] in
def sp_bag : ASp := fun rs k => ∃ ns : List Int, rs = [.bor (ns.map .int)] ∧ ns.length ≤ 63 ∧ k .bag
omit [XR] in
def sp_take : ASp := fun rs k => ∃ n : Int, rs = [.bag, .dat (.int n)] ∧ (0 < n ∧ n < 2 ^ 62) ∧ ∀ v : Int, 0 ≤ v → v < n → k (.dat (.int v))
omit [XR] in
def sp_some : ASp := fun rs k => ∃ (x : Res) (ds : List PyData), rs = [.bag, x] ∧ (x = .bor ds ∨ x = .dat (.tuple ds) ∨ x = .dat (.list ds)) ∧ (0 < ds.length ∧ ds.length < 1000000) ∧ ∀ (i : Nat) (d : PyData), ds[i]? = some d → k (.dat d)
end
end Dl

/-! own layer: gcd, isqrt, isinstance -/
namespace Dl
variable [LamT] [XR]
open PySem PySem.Spec L2 PyProof.Rows
section
variable {K : PySem.W.Frag} {δ : List Slot} {k : Res → Prop} {te : TE}
theorem GS.imp {g : TG} {x : Res} {k k' : List Slot → Prop} (h : GS K g x δ k) (hk : ∀ δ', k δ' → k' δ') : GS K g x δ k' :=
  fun B H H1 σ v R e o Q q => h B H H1 σ v R e o Q fun σ' H' δ' R' hw kd => q σ' H' δ' R' hw (hk δ' kd)
theorem SD.imp {t : TS} {nx nx' bk bk' ct ct' : List Slot → Prop} {rt rt' : Res → Prop} (h : SD K t ⟨nx, rt, bk, ct⟩ δ) (h1 : ∀ δ', nx δ' → nx' δ') (h2 : ∀ r, rt r → rt' r) (h3 : ∀ δ', bk δ' → bk' δ') (h4 : ∀ δ', ct δ' → ct' δ') : SD K t ⟨nx', rt', bk', ct'⟩ δ :=
  fun B H σ R E C => h B H σ R E ⟨fun σ' H' δ' R' hx => C.nx σ' H' δ' R' (h1 _ hx), fun v H' r e o hx => C.rt v H' r e o (h2 _ hx), fun σ' H' δ' R' hx => C.bk σ' H' δ' R' (h3 _ hx), fun σ' H' δ' R' hx => C.ct σ' H' δ' R' (h4 _ hx)⟩
inductive GcdP : List Res → (Res → Prop) → Prop
  | mk {i j : Int} {k : Res → Prop} : k (.dat (.int ((Nat.gcd i.natAbs j.natAbs : Nat) : Int))) → GcdP [.dat (.int i), .dat (.int j)] k
theorem cbGcd : CbOk K rGcd GcdP := by
  intro B H H1 vs rs k Q e0 e1 o p q
  cases p with
  | mk g =>
    cases o with
    | cons o1 o2 =>
      cases o2 with
      | cons o2 o3 =>
        cases o1; cases o2; cases o3
        exact ⟨_, _, rfl, q _ _ _ (Same.refl _) rInt g⟩
def bIsqrt : List V → Hp → VK → Prop := fun vs H Q => ∃ a : Int, vs = [.int a] ∧ 0 ≤ a ∧ a < 2 ^ 250 ∧ ∀ r : Int, 0 ≤ r → r * r ≤ a → a < (r + 1) * (r + 1) → Q (.int r) H
theorem cIsqrt {X : Cx} : CallR X (.builtin "math.isqrt") bIsqrt := by
  intro pins s σ H vs us Q I r h
  obtain ⟨a, rfl, h0, h1, q⟩ := h
  obtain ⟨u, rfl, r1⟩ := vals1 r
  obtain ⟨t, rfl⟩ := r1
  have hb : a.toNat < 2 ^ 250 := by
    rw [Int.toNat_lt h0]
    refine Int.lt_of_lt_of_le h1 ?_
    rw [Int.natCast_pow]
    exact Int.le_refl _
  have hl : a.toNat.log2 < 250 := Nat.lt_of_not_le fun hh => by
    by_cases hz : a.toNat = 0
    · rw [hz] at hh
      exact absurd hh (by decide)
    · exact absurd ((Nat.log2_lt hz).mpr hb) (by omega)
  obtain ⟨s1, s2⟩ := PySem.Float64.isqrt_spec a.toNat
  refine call_function_meets PySem.W.MGF.kind_isqrt PySem.W.MGF.plain_isqrt PySem.W.MGF.entry_isqrt (PySem.W.MGF.args_isqrt _) (PySem.W.mg_run_isqrt a t (by omega) (by omega) (by omega)).meets ⟨.int _, H, I.tok _, ⟨_, rfl⟩, q _ (Int.natCast_nonneg _) ?_ ?_⟩
  · have := Int.ofNat_le.mpr s1
    rw [Int.toNat_of_nonneg h0, Int.natCast_mul] at this
    exact this
  · have := Int.ofNat_lt.mpr s2
    rw [Int.toNat_of_nonneg h0, Int.natCast_mul] at this
    exact this
inductive IsqrtP : List Res → (Res → Prop) → Prop
  | mk {i : Int} {k : Res → Prop} : 0 ≤ i → i < 2 ^ 250 → (∀ r : Int, 0 ≤ r → r * r ≤ i → i < (r + 1) * (r + 1) → k (.dat (.int r))) → IsqrtP [.dat (.int i)] k
theorem cbIsqrt : CbOk K bIsqrt IsqrtP := by
  intro B H H1 vs rs k Q e0 e1 o p q
  cases p with
  | mk h0 h1 g =>
    cases o with
    | cons o1 o2 =>
      cases o1; cases o2
      exact ⟨_, rfl, h0, h1, fun r r0 r1 r2 => q _ _ _ (Same.refl _) rInt (g r r0 r1 r2)⟩
/-! ### isinstance -/
def tyN : PyData → String
  | .none => "NoneType"
  | .bool _ => "bool"
  | .int _ => "int"
  | .str _ => "str"
  | .list _ => "list"
  | .tuple _ => "tuple"
  | .dict _ => "dict"
theorem tyx_l {H : Hp} {p : Addr} {vs : List V} (h : SqL K H p vs) : TyX K H (.ref p) (.type "list") := by
  rcases h with (h | ⟨o, h⟩) | ⟨o, its, n, h1, h2, _⟩
  · exact .base (.lst h)
  · exact .base (.frz h)
  · exact .kList h1 h2
theorem tyx_t {H : Hp} {p : Addr} {vs : List V} (h : SqT K H p vs) : TyX K H (.ref p) (.type "tuple") := by
  rcases h with (h | ⟨o, h⟩) | ⟨o, its, n, h1, h2, _⟩
  · exact .base (.tup h)
  · exact .fTuple h
  · exact .kTuple h1 h2
theorem tyx {B H0 H : Hp} {v : V} {r : Res} {d : PyData} (e : Same B H) (o : ResOk K B H0 H v r) (h : r.data = some d) : TyX K H v (.type (tyN d)) := by
  cases r with
  | dat d' =>
    cases h
    cases o with
    | non => exact .base .non
    | bl b => exact .base (.bl b)
    | int i => exact .base (.int i)
    | str x => exact .base (.str x)
    | lst h _ => exact tyx_l h.seq
    | tup h _ => exact tyx_t h
    | dic _ h _ _ => exact h.elim fun o h => .fDict h
  | bor ds =>
    cases h
    obtain ⟨p, vs, rfl, h1, _⟩ := o
    exact tyx_l (h1.seq e)
  | len ds =>
    cases h
    obtain ⟨p, vs, rfl, h1, _⟩ := o
    exact tyx_l (.of h1)
  | fresh ds =>
    cases h
    obtain ⟨p, vs, rfl, _, h1, _⟩ := o
    exact tyx_l (.of h1)
  | _ => cases h
theorem ec_isi {T : String} (h : EvC K te δ fun x => ∃ d b, x.data = some d ∧ kitB (tyN d) T = some b ∧ k (.dat (.bool b))) : EvC K (tCB (rIsi K) (tCons te (tCons (tC (.ty T)) tNil))) δ k := by
  intro B H σ R Q q
  refine h B H σ R _ fun v H1 x e o ⟨d, b, hx, hb, g⟩ => ?_
  exact ⟨v, _, _, _, b, rfl, .ty T, tyx (R.same.trans e) o hx, kit_ty hb, q _ _ _ e rBl g⟩
theorem qIsi {X : Cx} (K : PySem.W.Frag) (h : X.K = K := by rfl) : CallR X (.builtin "isinstance") (rIsi K) := by subst h; exact call_isi
/-! ### // by a divisor of either sign -/
def CDivZ (_ j : Int) : Prop := j ≠ 0 ∧ j.natAbs.log2 < 9000
def rFdvA : R2 := fun x y H Q => rFdv x y H Q ∨ rI CDivZ (fun i j => .int (i.fdiv j)) x y H Q
theorem qFdvA {X : Cx} : OpR X (binaryOp .FloorDiv) rFdvA := .or oFdv (L2.opI fun i j _ _ _ _ _ hc q => floordiv_int hc.1 q (.inl (PyProof.noPylong_of_log2 hc.2)))
inductive FdvQ : Res → Res → (Res → Prop) → Prop
  | p {x y : Res} {k : Res → Prop} : IntP CDivW (fun i j => .int (i / j)) x y k → FdvQ x y k
  | z {i j : Int} {k : Res → Prop} : CDivZ i j → k (.dat (.int (i.fdiv j))) → FdvQ (.dat (.int i)) (.dat (.int j)) k
theorem opFdvA : OpOk K rFdvA FdvQ := by
  intro B H H1 x y rx ry k Q e0 e1 ox oy p q
  cases p with
  | p p => exact .inl (opFdv B H H1 x y rx ry k Q e0 e1 ox oy p q)
  | z hc g =>
    cases ox; cases oy
    exact .inr ⟨_, _, rfl, rfl, hc, q _ _ _ (Same.refl _) rInt g⟩
theorem fdvq_p {i j : Int} (c : CDivW i j) (g : k (.dat (.int (i / j)))) : FdvQ (.dat (.int i)) (.dat (.int j)) k := .p (.mk c g)
theorem cdz {i j : Int} {b : Nat} (h : j ≠ 0) (hb : j.natAbs < 2 ^ b) (h0 : 0 < b) (h9 : b ≤ 9000) : CDivZ i j := ⟨h, Nat.lt_of_lt_of_le (PySem.Flt.log2_lt_of h0 hb) h9⟩
/-- a loop whose state is told by what was walked -/
theorem forp_fold {β α : Type} {g : TG} {tb : TS} {nx : List Slot → Prop} {rt : Res → Prop} (xs : List β) (enc : β → PyData) (st : List β → α) (δI : α → List Slot) (h0 : Wk δ (δI (st [])))
    (turn : ∀ (pre : List β) (x : β) (post : List β), xs = pre ++ x :: post → GS K g (.dat (enc x)) (δI (st pre)) fun δ' => SD K tb ⟨fun δ2 => Wk δ2 (δI (st (pre ++ [x]))), rt, nx, fun δ2 => Wk δ2 (δI (st (pre ++ [x])))⟩ δ')
    (fin : nx (δI (st xs))) : ForP K (xs.map enc) g tb nx rt δ := by
  refine ⟨α, fun i a => a = st (xs.take i), δI, ⟨_, rfl, h0⟩, fun i a d hd ha => ?_, fun a ha => ?_⟩
  · rw [List.getElem?_map] at hd
    cases hx : xs[i]? with
    | none => rw [hx] at hd; cases hd
    | some x =>
      rw [hx] at hd
      cases hd
      obtain ⟨hi, hxi⟩ := List.getElem?_eq_some_iff.mp hx
      have e1 : xs.take (i + 1) = xs.take i ++ [x] := by rw [List.take_add_one, hx]; rfl
      have e2 : xs = xs.take i ++ x :: xs.drop (i + 1) := by
        rw [← hxi, ← List.drop_eq_getElem_cons hi, List.take_append_drop]
      subst ha
      refine (turn _ x _ e2).imp fun δ' h => ?_
      refine h.imp (fun δ2 w => ⟨_, e1 ▸ rfl, w⟩) (fun _ r => r) (fun _ r => r) fun δ2 w => ⟨_, e1 ▸ rfl, w⟩
  · subst ha
    rw [List.length_map, List.take_length]
    exact fin
theorem abs_nat (n : Int) : (if n < 0 then -n else n) = (n.natAbs : Int) := by split <;> omega
theorem kit_ii : kitB "int" "int" = some true := by decide +kernel
theorem kit_ib : kitB "int" "bool" = some false := by decide +kernel
theorem some_l {ds : List PyData} (P : PyData → Prop) (h : ∀ d ∈ ds, P d) (h0 : 0 < ds.length ∧ ds.length < 1000000) (g : ∀ d, P d → k (.dat d)) : sp_some [.bag, .bor ds] k :=
  ⟨_, ds, rfl, .inl rfl, h0, fun i d hd => g d (h d (List.mem_of_getElem? hd))⟩
theorem some_t {ds : List PyData} (P : PyData → Prop) (h : ∀ d ∈ ds, P d) (h0 : 0 < ds.length ∧ ds.length < 1000000) (g : ∀ d, P d → k (.dat d)) : sp_some [.bag, .dat (.tuple ds)] k :=
  ⟨_, ds, rfl, .inr (.inl rfl), h0, fun i d hd => g d (h d (List.mem_of_getElem? hd))⟩
omit [XR] in
def sp_isint : ASp := fun rs k => ∃ x : Int, rs = [.dat (.int x)] ∧ k (.dat (.bool true))
end
end Dl

/-! own layer: tuple(zip(a, b)), list(zip(a, b)) of two lists -/
namespace Dl
variable [LamT] [XR]
open PySem PySem.Spec L2 PyProof.Rows
/-- a zip that has told i couples -/
def ZSt (h : Heap) (z TI TO i1 i2 l1 l2 S : Addr) (i : Nat) : Prop :=
  (∃ o, h.get? TO = some o) ∧ IsPair h TI (.ref i1) (.ref i2) ∧ h.IsListIter i1 l1 i ∧ h.IsListIter i2 l2 i ∧
    (PySem.IsZip h z TI TO .none ∧ IsPair h TO .none .none ∨ ∃ (T : Addr) (f : Bool) (oT : Obj), IsZipHeld h z TI TO T f ∧ h.get? T = some oT ∧ T ≠ z ∧ T ≠ i1 ∧ T ≠ i2 ∧ T ≠ S)
section
variable {prog : Program} {w : World} {A : Around} {E : Value → Shared → Prop} {s : Shared} {z TI TO i1 i2 l1 l2 S : Addr} {i : Nat} {xs ys : Array Value} {x y : Value} {Q : Option Value → Shared → Prop}
theorem ZSt.at {h h' : Heap} (st : ZSt h z TI TO i1 i2 l1 l2 S i) (h3 : S ≠ z ∧ S ≠ TO ∧ S ≠ i1 ∧ S ≠ i2) (h4 : S ≠ TI) (k : ∀ c o, c ≠ S → h.get? c = some o → h'.get? c = some o) : ZSt h' z TI TO i1 i2 l1 l2 S i := by
  obtain ⟨⟨ob, a0⟩, a, b, c, d⟩ := st
  obtain ⟨n1, n2, n3, n4⟩ := h3
  refine ⟨⟨ob, k _ _ (Ne.symm n2) a0⟩, k _ _ (Ne.symm h4) a, b.at fun o q => k _ o (Ne.symm n3) q, c.at fun o q => k _ o (Ne.symm n4) q, ?_⟩
  rcases d with ⟨d1, d2⟩ | ⟨T, f, oT, d1, d2, d3⟩
  · exact .inl ⟨k _ _ (Ne.symm n1) d1, k _ _ (Ne.symm n2) d2⟩
  · exact .inr ⟨T, f, oT, k _ _ (Ne.symm n1) d1, k _ _ d3.2.2.2 d2, d3⟩
theorem z_item (hSl : s.heap.objs.size ≠ S) (D : ZipApart z TI TO i1 i2 l1 l2) (st : ZSt s.heap z TI TO i1 i2 l1 l2 S i) (hl1 : s.heap.IsList l1 xs) (hl2 : s.heap.IsList l2 ys) (hx : xs[i]? = some x) (hy : ys[i]? = some y)
    (hQ : ∀ h', ZSt h' z TI TO i1 i2 l1 l2 S (i + 1) → IsPair h' s.heap.objs.size x y → (∀ c o, c ≠ z → c ≠ TO → c ≠ i1 → c ≠ i2 → s.heap.get? c = some o → h'.get? c = some o) → Q (some (.ref s.heap.objs.size)) { s with heap := h' }) :
    wpAny (model prog w) A (pyNext (.ref z)) Q E s := by
  obtain ⟨⟨oO, hO⟩, hTI, h1, h2, d⟩ := st
  have lt : ∀ {c : Addr} {o : Obj}, s.heap.get? c = some o → s.heap.objs.size ≠ c := fun e => Nat.ne_of_gt (Heap.lt_size e)
  have q1 : s.heap.objs.size ≠ i1 := by obtain ⟨o, e, _⟩ := h1; exact lt e
  have q2 : s.heap.objs.size ≠ i2 := by obtain ⟨o, e, _⟩ := h2; exact lt e
  rcases d with ⟨d1, d2⟩ | ⟨T, f, oT, d1, d2, d3, d4, d5, d6⟩
  · refine wpAny_pyNext_zip_item D d1 hTI d2 h1 h2 hl1 hl2 hx hy fun h' a1 a2 a3 a4 a5 a6 a7 => hQ h' ⟨⟨_, a2⟩, a7 _ _ D.TIz D.TITO D.TIi1 D.TIi2 hTI, a3, a4, .inr ⟨_, false, _, a1, a5, lt d1, q1, q2, hSl⟩⟩ a5 a7
  · have q0 : s.heap.objs.size ≠ z := lt d1
    refine wpAny_pyNext_zip_item_held D d1 d2 hTI h1 h2 hl1 hl2 hx hy fun h' a1 a3 a4 a5 a6 a7 => hQ h' ⟨⟨_, a7 _ _ D.TOz D.TOi1 D.TOi2 hO⟩, a7 _ _ D.TIz D.TIi1 D.TIi2 hTI, a3, a4, .inr ⟨T, true, oT, a1, a7 _ _ d3 d4 d5 d2, d3, d4, d5, d6⟩⟩ a5 fun c o c1 _ c3 c4 e => a7 c o c1 c3 c4 e
theorem z_end (hh : A.handled = none) (D : ZipApart z TI TO i1 i2 l1 l2) (st : ZSt s.heap z TI TO i1 i2 l1 l2 S i) (hl1 : s.heap.IsList l1 xs) (hl2 : s.heap.IsList l2 ys) (hend : xs[i]? = none ∨ ys[i]? = none)
    (hQ : ∀ h', (∀ c o, c ≠ z → c ≠ TO → c ≠ i1 → c ≠ i2 → s.heap.get? c = some o → h'.get? c = some o) → Q none { s with heap := h' }) :
    wpAny (model prog w) A (pyNext (.ref z)) Q E s := by
  obtain ⟨⟨oO, hO⟩, hTI, h1, h2, d⟩ := st
  rcases d with ⟨d1, d2⟩ | ⟨T, f, oT, d1, d2, d3, d4, d5, d6⟩
  · exact wpAny_pyNext_zip_end hh D d1 hTI d2 h1 h2 hl1 hl2 hend hQ
  · exact wpAny_pyNext_zip_end_held hh D d1 d2 hTI h1 h2 hl1 hl2 hend fun h' k => hQ h' fun c o c1 _ c3 c4 e => k c o c1 c3 c4 e
end
/-- the couples told so far, as they lie -/
def ZImg (H : Hp) (xs ys : List V) (vs : List V) (i : Nat) : Prop := vs.length = i ∧ ∀ (j : Nat) (v : V), vs[j]? = some v → ∃ (T : Addr) (x y : V), v = .ref T ∧ xs[j]? = some x ∧ ys[j]? = some y ∧ H T = some (.tup [x, y])
def lstObj (acc : Array Value) (c : Nat) : Obj := { cls := .type "list", dict := none, data := .seq acc c, slots := #[] }
theorem zip_loop {X : Cx} {A : Around} (hh : A.handled = none) {R : Result → Shared → Prop} {pins : List (Addr × Obj)} {σ : L2.St} {z TI TO i1 i2 l1 l2 S : Addr} {res : Value} (D : ZipApart z TI TO i1 i2 l1 l2) (hS : S ≠ z ∧ S ≠ TO ∧ S ≠ i1 ∧ S ≠ i2)
    {xs ys : List V} {n : Nat} (hn : n = min xs.length ys.length) (hz : n ≤ 1000000) :
    ∀ (k i : Nat) (s : Shared) (H : Hp) (acc : Array Value) (c : Nat) (vs : List V), n - i = k → i ≤ n → Inv X pins σ H s → (∀ d ∈ [z, TO, i1, i2, S], FpOk X pins H d) → SqL X.K H l1 xs → SqL X.K H l2 ys →
      ZSt s.heap z TI TO i1 i2 l1 l2 S i → s.heap.get? S = some (lstObj acc c) → S ≠ TI → Vals vs acc.toList → ZImg H xs ys vs i →
      (∀ s' H' acc' c' vs', Inv X pins σ H' s' → Same H H' → s'.heap.get? S = some (lstObj acc' c') → Vals vs' acc'.toList → ZImg H' xs ys vs' n → R (.ok (.ret res)) s') →
      codeAny (model X.prog X.w) A (.builtin "list.extend.loop" ⟨[.ref S, .ref z, res], []⟩) R s := by
  intro k
  induction k with
  | zero =>
    intro i s H acc c vs hk hi I hf q1 q2 st hSo hSt rv im hR
    have hin : i = n := by omega
    subst hin
    obtain ⟨t1, r1, p1, _⟩ := I.list q1
    obtain ⟨t2, r2, p2, _⟩ := I.list q2
    refine codeAny_builtin F.entry_extend_loop ?_
    rw [Around.under_plainId F.plain_extend_loop _]
    show wpAny _ A.in1 (pyNext (.ref z) >>= _) _ _ s
    refine wpAny_bind (z_end (A := A.in1) hh D st p1.isList p2.isList ?_ fun h' hk => ?_)
    · have e1 := r1.length
      have e2 := r2.length
      rw [List.getElem?_toArray, List.getElem?_toArray]
      by_cases hx : xs.length ≤ i
      · exact .inl (List.getElem?_eq_none (by omega))
      · exact .inr (List.getElem?_eq_none (by omega))
    · exact wpAny_pure (hR _ H acc c vs (I.turnedL (t' := s.toks) (ch := [z, TO, i1, i2, S]) (fun b o hb e => by
        simp only [List.mem_cons, List.not_mem_nil, or_false, not_or] at hb
        exact hk b o hb.1 hb.2.1 hb.2.2.1 hb.2.2.2.1 e) hf) (Same.refl H) (hk S _ hS.1 hS.2.1 hS.2.2.1 hS.2.2.2 hSo) rv im)
  | succ k ih =>
    intro i s H acc c vs hk hi I hf q1 q2 st hSo hSt rv im hR
    have hlt : i < n := by omega
    obtain ⟨t1, r1, p1, _⟩ := I.list q1
    obtain ⟨t2, r2, p2, _⟩ := I.list q2
    have e1 := r1.length
    have e2 := r2.length
    have hx : xs[i]? = some xs[i] := List.getElem?_eq_getElem (by omega)
    have hy : ys[i]? = some ys[i] := List.getElem?_eq_getElem (by omega)
    obtain ⟨u, hu, ru⟩ := r1.get hx
    obtain ⟨v, hv, rvv⟩ := r2.get hy
    refine codeAny_builtin F.entry_extend_loop ?_
    rw [Around.under_plainId F.plain_extend_loop _]
    show wpAny _ A.in1 (pyNext (.ref z) >>= _) _ _ s
    refine wpAny_bind (z_item (Nat.ne_of_gt (Heap.lt_size hSo)) D st p1.isList p2.isList (x := u) (y := v) (by rw [List.getElem?_toArray]; exact hu) (by rw [List.getElem?_toArray]; exact hv) fun h' st' hp hkk => ?_)
    have hSlt : s.heap.objs.size ≠ S := Nat.ne_of_gt (Heap.lt_size hSo)
    have hS' := hkk S _ hS.1 hS.2.1 hS.2.2.1 hS.2.2.2 hSo
    have new : ObjOk X.prog X.w (upd H s.heap.objs.size (.tup [xs[i], ys[i]])) h' s.heap.objs.size (.tup [xs[i], ys[i]]) :=
      ⟨(by decide : 2 ≤ sizeLine), [u, v], .cons ru (.cons rvv .nil), ⟨_, hp, rfl, _, rfl⟩⟩
    have I1 : Inv X pins σ (upd H s.heap.objs.size (.tup [xs[i], ys[i]])) { s with heap := h' } :=
      I.turnedNew (t' := s.toks) (ch := [z, TO, i1, i2, S]) (fun b o hb e => by
        simp only [List.mem_cons, List.not_mem_nil, or_false, not_or] at hb
        exact hkk b o hb.1 hb.2.1 hb.2.2.1 hb.2.2.2.1 e) hf (Nat.le_refl _) new
    have hnew : H s.heap.objs.size = none := I.hok.fresh (Nat.le_refl _)
    have sm : Same H (upd H s.heap.objs.size (.tup [xs[i], ys[i]])) := same_new hnew
    have hf' : ∀ d ∈ [z, TO, i1, i2, S], FpOk X pins (upd H s.heap.objs.size (.tup [xs[i], ys[i]])) d := fun d hd => by
      obtain ⟨a, b⟩ := hf d hd
      refine ⟨?_, b⟩
      rw [upd_ne ?_]
      · exact a
      · simp only [List.mem_cons, List.not_mem_nil, or_false] at hd
        obtain ⟨⟨_, y0⟩, _, y1, y2, y3⟩ := st
        rcases hd with rfl | rfl | rfl | rfl | rfl
        · rcases y3 with ⟨y3, _⟩ | ⟨_, _, _, y3, _⟩ <;> exact Nat.ne_of_lt (Heap.lt_size y3)
        · exact Nat.ne_of_lt (Heap.lt_size y0)
        · obtain ⟨o, e, _⟩ := y1
          exact Nat.ne_of_lt (Heap.lt_size e)
        · obtain ⟨o, e, _⟩ := y2
          exact Nat.ne_of_lt (Heap.lt_size e)
        · exact Nat.ne_of_lt (Heap.lt_size hSo)
    have hacc : acc.size = i := by
      have := rv.length
      rw [im.1] at this
      simpa using this.symm
    show wpAny _ A.in1 (updateSeq S (·.push _) >>= _) _ _ _
    refine wpAny_bind ?_
    refine wpAny_updateSeq hS' rfl (wpAny_pure ⟨plainId_quiet F.plain_extend_loop _, ih (i + 1) _ (upd H s.heap.objs.size (.tup [xs[i], ys[i]])) (acc.push (.ref s.heap.objs.size)) _ (vs ++ [.ref s.heap.objs.size]) (by omega) hlt ?_ hf' (sql_same sm q1) (sql_same sm q2) ?_ (Heap.get?_update_self _ hS' rfl) hSt ?_ ?_ ?_⟩)
      (by rw [hacc]; omega) (by show (acc.push _).size ≤ sizeLine + 1; rw [Array.size_push, hacc]; have : sizeLine = 16777216 := by decide
                                omega)
    · exact I1.turnedL (t' := s.toks) (ch := [S]) (fun b o hb e => (Heap.get?_update_other _ _ (fun h : S = b => hb (by rw [h]; exact List.mem_singleton_self _))).trans e) fun b hb => hf' b (by rw [List.mem_singleton.mp hb]; simp)
    · exact st'.at hS hSt fun c o hc e => (Heap.get?_update_other _ _ (Ne.symm hc)).trans e
    · rw [Array.toList_push]
      exact rv.append (.cons rfl .nil)
    · refine ⟨by rw [List.length_append, im.1]; rfl, fun j v hj => ?_⟩
      by_cases hji : j < vs.length
      · rw [List.getElem?_append_left hji] at hj
        obtain ⟨T, a, b, t1, t2, t3, t4⟩ := im.2 j v hj
        exact ⟨T, a, b, t1, t2, t3, sm.at_ _ _ t4⟩
      · rw [List.getElem?_append_right (by omega)] at hj
        have h1 := (List.getElem?_eq_some_iff.mp hj).1
        simp at h1
        have hj0 : j = vs.length := by omega
        subst hj0
        simp at hj
        have e := im.1
        subst hj
        refine ⟨_, xs[i], ys[i], rfl, by rw [e]; exact hx, by rw [e]; exact hy, upd_same⟩
    · intro s' H' acc' c' vs' I' sm' a b d
      exact hR s' H' acc' c' vs' I' (sm.trans sm') a b d
namespace Fz
theorem zip_no_len : typeLookup (.type "zip") "__len__" = pure none := by rw [typeLookup_type, builtinLookup_eq_fast]; kernel_rfl
theorem zip_no_hint : typeLookup (.type "zip") "__length_hint__" = pure none := by rw [typeLookup_type, builtinLookup_eq_fast]; kernel_rfl
end Fz
theorem collect_zip {X : Cx} {A : Around} {E : Value → Shared → Prop} {Q : List Value → Shared → Prop} {pins : List (Addr × Obj)} {σ : L2.St} {H : Hp} {s : Shared} {z TI TO i1 i2 l1 l2 : Addr} {xs ys : List V} {n : Nat} (hh : A.handled = none)
    (D : ZipApart z TI TO i1 i2 l1 l2) (hn : n = min xs.length ys.length) (hz : n ≤ 1000000) (I : Inv X pins σ H s) (hf : ∀ d ∈ [z, TO, i1, i2], FpOk X pins H d) (q1 : SqL X.K H l1 xs) (q2 : SqL X.K H l2 ys)
    (hZ : PySem.IsZip s.heap z TI TO .none) (hTI : IsPair s.heap TI (.ref i1) (.ref i2)) (hTO : IsPair s.heap TO .none .none) (h1 : s.heap.IsListIter i1 l1 0) (h2 : s.heap.IsListIter i2 l2 0)
    (hQ : ∀ s' H' (acc : Array Value) vs', Inv X pins σ H' s' → Same H H' → Vals vs' acc.toList → ZImg H' xs ys vs' n → Q acc.toList s') : wpAny (model X.prog X.w) A (collect (.ref z)) Q E s := by
  unfold collect
  refine wpAny_bind (wpAny_runValue (codeAny_builtin F.entry_proto_collect ?_))
  rw [Around.under_plainId F.plain_proto_collect _]
  show wpAny _ A.in1 (newList [] >>= fun l => again (.builtin "list.__iadd__" ⟨[l, .ref z], []⟩)) _ _ s
  refine wpAny_bind (wpAny_newObj_type ?_)
  refine wpAny_pure ⟨plainId_quiet F.plain_list_iadd _, codeAny_builtin F.entry_list_iadd ?_⟩
  rw [Around.under_plainId F.plain_list_iadd _]
  show wpAny _ A.in1 (Builtin.List.listExtendWith (.ref s.heap.objs.size) (.ref z) (.ref s.heap.objs.size)) _ _ _
  unfold Builtin.List.listExtendWith
  have up : ∀ c o, s.heap.get? c = some o → (s.heap.push { cls := .type "list", data := .seq ([] : List Value).toArray }).get? c = some o := fun c o e => Heap.get?_push_of_some _ e
  have hT : Shared.TypeIs { s with heap := s.heap.push { cls := .type "list", data := .seq ([] : List Value).toArray } } (.ref z) "zip" := ⟨_, up _ _ hZ, rfl⟩
  have lt : ∀ {c : Addr} {o : Obj}, s.heap.get? c = some o → s.heap.objs.size ≠ c := fun e => Nat.ne_of_gt (Heap.lt_size e)
  have n1 : s.heap.objs.size ≠ i1 := by obtain ⟨o, e, _⟩ := h1; exact lt e
  have n2 : s.heap.objs.size ≠ i2 := by obtain ⟨o, e, _⟩ := h2; exact lt e
  have n0 : s.heap.objs.size ≠ z := lt hZ
  refine wpAny_bind (wpAny_typeOf hT ?_)
  have g1 : Builtin.List.listSameRef (.ref s.heap.objs.size) (.ref z) = false := by simp [Builtin.List.listSameRef, n0]
  have g2 : (Value.type "zip" == Value.type "list") = false := by decide
  have g3 : (Value.type "zip" == Value.type "tuple") = false := by decide
  simp only [g1, g2, g3, Bool.or_false, Bool.false_eq_true, if_false]
  refine wpAny_bind (wpAny_pyIter_zip (up _ _ hZ) ?_)
  refine wpAny_bind (wpAny_holding ?_)
  unfold Builtin.List.listLengthHint
  refine wpAny_bind (wpAny_specialOf hT Fz.zip_no_len ?_)
  show wpAny _ A.in1 (specialOf (Value.ref z) (Str.ofString "__length_hint__") >>= _) _ _ _
  refine wpAny_bind (wpAny_specialOf hT Fz.zip_no_hint ?_)
  refine wpAny_pure ?_
  show wpAny _ A.in1 (rule "list.extend.makes-room" >>= fun _ => Builtin.List.listTouch (.ref s.heap.objs.size) >>= fun _ =>
    again (.builtin "list.extend.loop" ⟨[.ref s.heap.objs.size, .ref z, .ref s.heap.objs.size], []⟩)) _ _ _
  refine wpAny_bind (wpAny_rule ?_)
  have hS₁ : (s.heap.push { cls := .type "list", data := .seq ([] : List Value).toArray }).get? s.heap.objs.size = some { cls := .type "list", data := .seq ([] : List Value).toArray } := Heap.get?_push_size _ rfl
  refine wpAny_bind ?_
  show wpAny _ A.in1 (updateSeq s.heap.objs.size (·.push .none) >>= fun _ => updateSeq s.heap.objs.size (·.pop)) _ _ _
  refine wpAny_bind (wpAny_updateSeq hS₁ rfl ?_)
  have hS₂ := Heap.get?_update_self (Obj.mapSeq (·.push Value.none)) hS₁ rfl
  refine wpAny_updateSeq hS₂ rfl ?_
  have hS₃ := Heap.get?_update_self (Obj.mapSeq (·.pop)) hS₂ rfl
  have oth : ∀ b o, s.heap.get? b = some o → (((s.heap.push { cls := .type "list", data := .seq ([] : List Value).toArray }).update s.heap.objs.size (Obj.mapSeq (·.push Value.none))).update s.heap.objs.size (Obj.mapSeq (·.pop))).get? b = some o :=
    fun b o e => (Heap.get?_update_other _ _ (lt e)).trans ((Heap.get?_update_other _ _ (lt e)).trans (up b o e))
  have I1 := I.kept (t' := s.toks) oth
  have hf1 : ∀ d ∈ [z, TO, i1, i2, s.heap.objs.size], FpOk X pins H d := fun d hd => by
    simp only [List.mem_cons, List.not_mem_nil, or_false] at hd
    rcases hd with rfl | rfl | rfl | rfl | rfl
    · exact hf _ (by simp)
    · exact hf _ (by simp)
    · exact hf _ (by simp)
    · exact hf _ (by simp)
    · exact I.fpOk (Nat.le_refl _) (I.hok.fresh (Nat.le_refl _))
  refine wpAny_pure ⟨plainId_quiet F.plain_extend_loop _, zip_loop (xs := xs) (ys := ys) (n := n) hh D ⟨n0, lt hTO, n1, n2⟩ hn hz n 0 _ H _ _ [] rfl (Nat.zero_le _) I1 hf1 q1 q2
    ⟨⟨_, oth _ _ hTO⟩, oth _ _ hTI, h1.at fun o e => oth _ o e, h2.at fun o e => oth _ o e, .inl ⟨oth _ _ hZ, oth _ _ hTO⟩⟩ hS₃ (lt hTI) .nil ⟨rfl, fun j v e => by simp at e⟩ fun s' H' acc' c' vs' I' sm hS' rv im => ?_⟩
  show wpAny _ A (load s.heap.objs.size >>= _) _ _ s'
  refine wpAny_bind (wpAny_load hS' ?_)
  exact wpAny_pure (hQ s' H' acc' vs' I' sm rv im)
theorem code_tuple_zip {X : Cx} {A : Around} {E : Value → Shared → Prop} {Q₁ : Value → Shared → Prop} {pins : List (Addr × Obj)} {σ : L2.St} {H : Hp} {s : Shared} {z TI TO i1 i2 l1 l2 : Addr} {xs ys : List V} {n : Nat} (hh : A.handled = none)
    (D : ZipApart z TI TO i1 i2 l1 l2) (hn : n = min xs.length ys.length) (hz : n ≤ 1000000) (I : Inv X pins σ H s) (hf : ∀ d ∈ [z, TO, i1, i2], FpOk X pins H d) (q1 : SqL X.K H l1 xs) (q2 : SqL X.K H l2 ys)
    (hZ : PySem.IsZip s.heap z TI TO .none) (hTI : IsPair s.heap TI (.ref i1) (.ref i2)) (hTO : IsPair s.heap TO .none .none) (h1 : s.heap.IsListIter i1 l1 0) (h2 : s.heap.IsListIter i2 l2 0)
    (h : ∀ s' H' (acc : Array Value) vs', Inv X pins σ H' s' → Same H H' → Vals vs' acc.toList → ZImg H' xs ys vs' n → Q₁ (.ref s'.heap.objs.size) { s' with heap := s'.heap.push { cls := .type "tuple", data := .seq acc } }) :
    codeAny (model X.prog X.w) A (.call (.builtin "tuple.__new__") ⟨[.type "tuple", .ref z], []⟩) (wants Q₁ E) s := by
  refine codeAny_of_tree ?_
  show wpAny _ A.in1 (do checkBuiltinCall "tuple.__new__" ⟨[.type "tuple", .ref z], []⟩; again (.builtin "tuple.__new__" ⟨[.type "tuple", .ref z], []⟩)) _ _ s
  refine wpAny_bind (wpAny_of_eq (F.newCall_tuple_1 _) (wpAny_pure ⟨plainId_quiet F.plain_tuple_new _, codeAny_builtin F.entry_tuple_new ?_⟩))
  rw [Around.under_plainId F.plain_tuple_new _]
  have hsub := sub_tuple_self
  have hinit := init_tuple_lookup
  have hmh := madeHere_tuple
  have hty : s.TypeIs (.ref z) "zip" := ⟨_, hZ, rfl⟩
  have hh1 : A.in1.handled = none := hh
  wp_walk using wpAny_typeOf hty, collect_zip (A := A.in1) hh1 D hn hz I hf q1 q2 hZ hTI hTO h1 h2
  intro s' H' acc vs' I' sm rv im
  show wpAny _ _ (Builtin.Tuple.tupleExact acc.toList.toArray >>= fun v => ret v) _ _ _
  unfold Builtin.Tuple.tupleExact
  have e : acc.toList.toArray = acc := by simp
  rw [e]
  have hsz : acc.size = n := by
    have := rv.length
    rw [im.1] at this
    simpa using this.symm
  refine wpAny_bind (wpAny_newObj_type ?_ (by show acc.size ≤ sizeLine; rw [hsz]; exact Nat.le_trans hz (by decide)))
  refine wpAny_pure ?_
  exact h s' H' acc vs' I' sm rv im
def tTupZip (K : PySem.W.Frag) (ta : TA) : TE := fun σ H Q => ta σ H fun vs H1 => ∃ a b xs ys, vs = [.ref a, .ref b] ∧ SqL K H1 a xs ∧ SqL K H1 b ys ∧ min xs.length ys.length ≤ 1000000 ∧
  ∀ vs' H2 q, Same H1 H2 → ZImg H2 xs ys vs' (min xs.length ys.length) → H2 q = none → Q (.ref q) (upd H2 q (.tup vs'))
theorem pe_tupZip {X : Cx} {e e2 : Expr} {ta : TA} {p p' pos pos' : Pos} (hmt : X.mg "tuple" = none) (hmz : X.mg "zip" = none) (ha : PA X [e, e2] ta) (hc : X.calm = true := by rfl) (hgt : Gl X "tuple" := by rfl) (hgz : Gl X "zip" := by rfl)
    (hs : starEach [e, e2] X.env = (false, eval e X.env) :: starEach [e2] X.env := by rfl) (hpl : (backTo pos' (starEach [e2] X.env)).any (·.1) = false := by rfl)
    (na : starEach [.Call (.Name "zip" p') [e, e2] [] pos'] X.env = (false, eval (.Call (.Name "zip" p') [e, e2] [] pos') X.env) :: starEach [] X.env := by rfl) :
    PE X (.Call (.Name "tuple" p) [.Call (.Name "zip" p') [e, e2] [] pos'] [] pos) (tTupZip X.K ta) := by
  refine ⟨fun pins s σ H Q I h => ?_⟩
  refine Call_ (ld_blt I hgt hmt boot_tuple (PyProof.Rows.callWith_type1 (args_cons ?_ na) na))
  refine Call_ (ld_blt I hgz hmz PyProof.Rows.boot_zip (PyProof.Rows.callWith_type1 (thn (ha.run pos' pins s σ H _ I h) fun us s1 ⟨vs, H1, I1, r1, q1⟩ => ?_) hs hpl))
  obtain ⟨a, b, xs, ys, ex, hqx, hqy, hz, q⟩ := q1
  subst ex
  cases r1 with
  | cons r rr =>
    cases rr with
    | cons r' rr =>
      cases rr
      cases r
      cases r'
      obtain ⟨its, rv, p1, _⟩ := I1.list hqx
      obtain ⟨its2, rv2, p2, _⟩ := I1.list hqy
      have la : a < s1.heap.objs.size := p1.lt
      have lb : b < s1.heap.objs.size := p2.lt
      refine call_zip_2 p1.isList p2.isList fun h' hz' hTI hTO h1 h2 hsz hk => args_nil ?_
      have I2 : Inv X pins σ H1 { s1 with heap := h' } := I1.kept (t' := s1.toks) hk
      have D := PySem.W.ktu_apart s1.heap.objs.size a b la lb
      have hf : ∀ d ∈ [s1.heap.objs.size + 4, s1.heap.objs.size + 3, s1.heap.objs.size, s1.heap.objs.size + 1], FpOk X pins H1 d := fun d hd => by
        have hle : s1.heap.objs.size ≤ d := by
          simp only [List.mem_cons, List.not_mem_nil, or_false] at hd
          rcases hd with z | z | z | z
          · rw [z]; exact Nat.le_add_right _ _
          · rw [z]; exact Nat.le_add_right _ _
          · rw [z]; exact Nat.le_refl _
          · rw [z]; exact Nat.le_add_right _ _
        exact I1.fpOk hle (I1.hok.fresh hle)
      refine callType_codes (Q₁ := fun obj s₂ => s₂.TypeIs obj "tuple" ∧ EP X pins σ Q obj s₂) F.called_tuple (F.typeCall_tuple_1 _) F.entry_object_init
        (code_tuple_zip (A := X.A.in1) (I.ok.hd hc) D rfl hz I2 hf hqx hqy hz' hTI hTO h1 h2 fun s' H' acc vs' I' sm rv im => ⟨⟨_, Heap.get?_push_size _ rfl, rfl⟩, ?_⟩) fun obj s₁ h₁ => ?_
      · have hl : vs'.length ≤ sizeLine := by rw [im.1]; exact Nat.le_trans hz (by decide)
        have new : ObjOk X.prog X.w (upd H' s'.heap.objs.size (.tup vs')) (s'.heap.push { cls := .type "tuple", data := .seq acc }) s'.heap.objs.size (.tup vs') :=
          ⟨hl, acc.toList, rv, by
            have e : acc.toList.toArray = acc := by simp
            have := IsTup.new s'.heap acc.toList.toArray
            rw [e] at this
            exact this⟩
        exact ⟨.ref s'.heap.objs.size, _, I'.laid (t' := s'.toks) (fun b o e => Heap.get?_push_of_some _ e) (Nat.le_refl _) new, rfl, q vs' H' _ sm im (I'.hok.fresh (Nat.le_refl _))⟩
      · exact ⟨h₁.1, F.args_object_init_2 obj _, object_init_meets F.called_tuple.init.lookup F.called_tuple.made (by decide) X.prog X.w X.A.in1 _ s₁ ⟨h₁.1, rfl, h₁.2⟩⟩
end Dl

/-! own layer: enumerate and zip over abstract slots -/
namespace Dl
variable [LamT] [XR]
open PySem PySem.Spec L2 PyProof.Rows RZ
section
variable {K : PySem.W.Frag} {δ : List Slot} {te : TE} {ta : TA}
def enumD (ds : List PyData) : List PyData := (List.range ds.length).map fun i => .tuple [.int (i : Nat), ds.getD i .none]
def zipD (ds es : List PyData) : List PyData := (List.range (min ds.length es.length)).map fun i => .tuple [ds.getD i .none, es.getD i .none]
theorem enumD_len {ds : List PyData} : (enumD ds).length = ds.length := by unfold enumD; rw [List.length_map, List.length_range]
theorem zipD_len {ds es : List PyData} : (zipD ds es).length = min ds.length es.length := by unfold zipD; rw [List.length_map, List.length_range]
theorem getD_of {ds : List PyData} {i : Nat} {d : PyData} (h : ds[i]? = some d) : ds.getD i .none = d := by rw [List.getD_eq_getElem?_getD, h]; rfl
theorem enumD_get {ds : List PyData} {i : Nat} {d : PyData} (h : ds[i]? = some d) : (enumD ds)[i]? = some (.tuple [.int (i : Nat), d]) := by
  unfold enumD
  rw [List.getElem?_map, List.getElem?_range (List.getElem?_eq_some_iff.mp h).1]
  simp only [Option.map_some, getD_of h]
theorem zipD_get {ds es : List PyData} {i : Nat} {d e : PyData} (h : ds[i]? = some d) (h' : es[i]? = some e) : (zipD ds es)[i]? = some (.tuple [d, e]) := by
  unfold zipD
  have h1 := (List.getElem?_eq_some_iff.mp h).1
  have h2 := (List.getElem?_eq_some_iff.mp h').1
  rw [List.getElem?_map, List.getElem?_range (by omega)]
  simp only [Option.map_some, getD_of h, getD_of h']
theorem sq_same {b : Bool} {H H' : Hp} {a : Addr} {xs : List V} (e : Same H H') (h : Sq K b H a xs) : Sq K b H' a xs := by
  cases b
  · exact sqt_per (per_same e) (show SqT K H a xs from h)
  · exact sql_same e (show SqL K H a xs from h)
theorem walk_eA {G0 : Hp} {b : Bool} {a : Addr} {xs : List V} {ds : List PyData} (h : Sq K b G0 a xs) (im : ImAll K G0 xs ds) : WalkOk K G0 (IteA K b a) (enumD ds) := by
  refine ⟨YPair (fun i => some (.int (i : Nat))) (fun i => xs[i]?), ?_, fun i H x H' hi e y => ?_⟩
  · rw [enumD_len, ← im.length]
    refine ⟨fun i H hi q => ⟨xs, xs[i], sq_same q h, by simp [hi]⟩, fun H q => ⟨xs, sq_same q h, Nat.le_refl _⟩, fun i H v H' _ q y => ?_⟩
    obtain ⟨T, x, h1, h2, h3, h4⟩ := y
    exact ⟨T, .int (i : Nat), x, h1, h2, h3, rfl, h4 xs (sq_same q h)⟩
  · obtain ⟨T, x1, y1, rfl, hT, rfl, e1, e2⟩ := y
    cases e1
    obtain ⟨d, h1, h2⟩ := im.getV e2
    have sm : Same H (upd H T (.tup [.int (i : Nat), y1])) := same_new hT
    exact ⟨sm, _, enumD_get h1, .tup (SqT.of upd_same) (.cons (.int _) (.cons (h2.to (per_same (e.trans sm))) .nil)) (.inr upd_same)⟩
theorem walk_zL {G0 : Hp} {a b : Addr} {xs ys : List V} {ds es : List PyData} (h : SqL K G0 a xs) (h' : SqL K G0 b ys) (im : ImAll K G0 xs ds) (im' : ImAll K G0 ys es) : WalkOk K G0 (Itz K a b) (zipD ds es) := by
  refine ⟨YPair (fun i => xs[i]?) (fun i => ys[i]?), ?_, fun i H x H' hi e y => ?_⟩
  · rw [zipD_len, ← im.length, ← im'.length]
    exact (walk_zip (K := K) (a := a) (b := b) (xs := xs) (ys := ys) rfl).mono (G' := fun H => Same G0 H) (fun H q => ⟨sql_same q h, sql_same q h'⟩) fun i H x H' _ _ y => y
  · obtain ⟨T, x1, y1, rfl, hT, rfl, e1, e2⟩ := y
    obtain ⟨d, h1, h2⟩ := im.getV e1
    obtain ⟨d', h3, h4⟩ := im'.getV e2
    have sm : Same H (upd H T (.tup [x1, y1])) := same_new hT
    exact ⟨sm, _, zipD_get h1 h3, .tup (SqT.of upd_same) (.cons (h2.to (per_same (e.trans sm))) (.cons (h4.to (per_same (e.trans sm))) .nil)) (.inr upd_same)⟩
theorem walk_zT {G0 : Hp} {a b : Addr} {xs ys : List V} {ds es : List PyData} (h : SqT K G0 a xs) (h' : SqT K G0 b ys) (im : ImAll K G0 xs ds) (im' : ImAll K G0 ys es) : WalkOk K G0 (ItzT K a b) (zipD ds es) := by
  refine ⟨YPair (fun i => xs[i]?) (fun i => ys[i]?), ?_, fun i H x H' hi e y => ?_⟩
  · rw [zipD_len, ← im.length, ← im'.length]
    refine ⟨fun i H hi q => ?_, fun H q => ⟨xs, ys, sqt_per (per_same q) h, sqt_per (per_same q) h', by omega⟩, fun i H v H' _ q y => ?_⟩
    · have h1 : i < xs.length := by omega
      have h2 : i < ys.length := by omega
      exact ⟨xs, ys, xs[i], ys[i], sqt_per (per_same q) h, sqt_per (per_same q) h', by simp [h1], by simp [h2]⟩
    · obtain ⟨T, x, z, h1, h2, h3, h4, h5⟩ := y
      exact ⟨T, x, z, h1, h2, h3, h4 xs (sqt_per (per_same q) h), h5 ys (sqt_per (per_same q) h')⟩
  · obtain ⟨T, x1, y1, rfl, hT, rfl, e1, e2⟩ := y
    obtain ⟨d, h1, h2⟩ := im.getV e1
    obtain ⟨d', h3, h4⟩ := im'.getV e2
    have sm : Same H (upd H T (.tup [x1, y1])) := same_new hT
    exact ⟨sm, _, zipD_get h1 h3, .tup (SqT.of upd_same) (.cons (h2.to (per_same (e.trans sm))) (.cons (h4.to (per_same (e.trans sm))) .nil)) (.inr upd_same)⟩
/-- what may be walked, as it lies: at H, and in the part that no write reaches -/
theorem walked_sq {B H0 H1 : Hp} {v : V} {r : Res} {ds : List PyData} (e1 : Same B H1) (o : ResOk K B H0 H1 v r) (h : r.walked = some ds) : ∃ b p vs, v = .ref p ∧ Sq K b H1 p vs ∧ ImAll K H1 vs ds := by
  cases r with
  | dat d =>
    cases d <;> cases h
    · cases o with
      | lst h1 h2 => exact ⟨true, _, _, rfl, h1.seq, h2⟩
    · cases o with
      | tup h1 h2 => exact ⟨false, _, _, rfl, h1, h2⟩
  | bor es =>
    cases h
    obtain ⟨p, vs, rfl, h1, h2⟩ := o
    exact ⟨true, p, vs, rfl, h1.seq e1, h2⟩
  | len es =>
    cases h
    obtain ⟨p, vs, rfl, h1, h2⟩ := o
    exact ⟨true, p, vs, rfl, SqL.of h1, h2⟩
  | fresh es =>
    cases h
    obtain ⟨p, vs, rfl, _, h1, h2⟩ := o
    exact ⟨true, p, vs, rfl, SqL.of h1, h2⟩
  | _ => cases h
theorem still_sq {B H0 H1 : Hp} {v : V} {r : Res} {ds : List PyData} (e1 : Same B H1) (o : ResOk K B H0 H1 v r) (h : r.still = some ds) : ∃ b p vs, v = .ref p ∧ Sq K b H1 p vs ∧ Sq K b (core B H1) p vs ∧ ImAll K (core B H1) vs ds := by
  cases r with
  | dat d =>
    cases d <;> cases h
    · cases o with
      | lst h1 h2 => exact ⟨true, _, _, rfl, h1.seq, (h1.per core_per).seq, h2.to core_per⟩
    · cases o with
      | tup h1 h2 => exact ⟨false, _, _, rfl, h1, sqt_per core_per h1, h2.to core_per⟩
  | bor es =>
    cases h
    obtain ⟨p, vs, rfl, h1, h2⟩ := o
    exact ⟨true, p, vs, rfl, h1.seq e1, sqb_core e1 h1, h2.to core_per⟩
  | len es => cases h
  | fresh es => cases h
  | _ => cases h
theorem itl_enum {k : List PyData → Prop} (h : EvA K ta δ fun rs => ∃ x ds, rs = [x] ∧ x.still = some ds ∧ k (enumD ds)) : ItL K (iEnumA K ta) δ k := by
  intro B H σ R Rr q
  refine h B H σ R _ fun vs H1 rs e o ⟨x, ds, hx, hs, hk⟩ => ?_
  subst hx
  cases o with
  | cons o1 o2 =>
    cases o2
    obtain ⟨b, p, vs, rfl, h1, h2, h3⟩ := still_sq (R.same.trans e) o1 hs
    exact ⟨b, p, vs, rfl, h1, q _ H1 _ e (walk_eA h2 h3) hk⟩
theorem ite_enum {k : List PyData → Prop} (h : EvA K ta δ fun rs => ∃ x ds, rs = [x] ∧ x.walked = some ds ∧ k (enumD ds)) : ItE K (iEnumA K ta) δ k := by
  intro B H σ R Rr q
  refine h B H σ R _ fun vs H1 rs e o ⟨x, ds, hx, hs, hk⟩ => ?_
  subst hx
  cases o with
  | cons o1 o2 =>
    cases o2
    obtain ⟨b, p, vs, rfl, h1, h3⟩ := walked_sq (R.same.trans e) o1 hs
    exact ⟨b, p, vs, rfl, h1, q _ H1 _ e (walk_eA h1 h3) hk⟩
/-- tuple(zip(a, b)), two lists -/
theorem im_of_get {H : Hp} : ∀ (vs : List V) (ds : List PyData), vs.length = ds.length → (∀ (j : Nat) (v : V), vs[j]? = some v → ∃ d, ds[j]? = some d ∧ Im K H v d) → ImAll K H vs ds
  | [], [], _, _ => .nil
  | [], _ :: _, h, _ => by simp at h
  | _ :: _, [], h, _ => by simp at h
  | v :: vs, d :: ds, h, g => by
    obtain ⟨d', h1, h2⟩ := g 0 v rfl
    cases h1
    exact .cons h2 (im_of_get vs ds (by simpa using h) fun j u hu => g (j + 1) u hu)
theorem ec_tupZip {k : Res → Prop} (h : EvA K ta δ fun rs => ∃ x y ds es, rs = [x, y] ∧ x.items = some ds ∧ y.items = some es ∧ min ds.length es.length ≤ 1000000 ∧ k (.dat (.tuple (zipD ds es)))) : EvC K (tTupZip K ta) δ k := by
  intro B H σ R Q q
  refine h B H σ R _ fun vs H1 rs e o ⟨x, y, ds, es, hx, hd, he, hz, hk⟩ => ?_
  subst hx
  cases o with
  | cons o1 o2 =>
    cases o2 with
    | cons o2 o3 =>
      cases o3
      obtain ⟨a, xs, rfl, h1, h2⟩ := o1.list (R.same.trans e) hd
      obtain ⟨b, ys, rfl, h3, h4⟩ := o2.list (R.same.trans e) he
      refine ⟨a, b, xs, ys, rfl, h1, h3, by rw [h2.length, h4.length]; exact hz, fun vs' H2 p e2 im hp => ?_⟩
      refine q _ _ _ (e.trans (e2.trans (same_new hp))) (rTupN hp ?_) hk
      refine im_of_get _ _ (by rw [im.1, zipD_len, h2.length, h4.length]) fun j v hj => ?_
      obtain ⟨T, x, y, rfl, t2, t3, t4⟩ := im.2 j v hj
      obtain ⟨d, g1, g2⟩ := h2.getV t2
      obtain ⟨d', g3, g4⟩ := h4.getV t3
      exact ⟨_, zipD_get g1 g3, .tup (SqT.of t4) (.cons (g2.to (per_same e2)) (.cons (g4.to (per_same e2)) .nil)) (.inr t4)⟩
theorem qTupZip {X : Cx} (K : PySem.W.Frag) {e e2 : Expr} {ta : TA} {p p' pos pos' : Pos} (hmt : X.mg "tuple" = none) (hmz : X.mg "zip" = none) (ha : PA X [e, e2] ta) (h : X.K = K := by rfl) (hc : X.calm = true := by rfl) (hgt : Gl X "tuple" := by rfl) (hgz : Gl X "zip" := by rfl)
    (hs : starEach [e, e2] X.env = (false, eval e X.env) :: starEach [e2] X.env := by rfl) (hpl : (backTo pos' (starEach [e2] X.env)).any (·.1) = false := by rfl)
    (na : starEach [.Call (.Name "zip" p') [e, e2] [] pos'] X.env = (false, eval (.Call (.Name "zip" p') [e, e2] [] pos') X.env) :: starEach [] X.env := by rfl) :
    PE X (.Call (.Name "tuple" p) [.Call (.Name "zip" p') [e, e2] [] pos'] [] pos) (tTupZip K ta) := by subst h; exact pe_tupZip hmt hmz ha hc hgt hgz hs hpl na
/-! ### != of words -/
def rNeA (K : PySem.W.Frag) : R2 := fun x y H Q => rNeD K x y H Q ∨ rNe x y H Q
theorem qNeA {X : Cx} (K : PySem.W.Frag) (hu : X.A.units + 64 < cLine) (h : X.K = K := by rfl) : OpR X (compareOp .NotEq) (rNeA K) := by subst h; exact .or (oNe hu) op_ne
inductive NeQ : Res → Res → (Res → Prop) → Prop
  | d {x y : Res} {k : Res → Prop} : NeP x y k → NeQ x y k
  | s {x y : Str} {k : Res → Prop} : k (.dat (.bool (!decide (x = y)))) → NeQ (.dat (.str x)) (.dat (.str y)) k
theorem neq_i {i j : Int} {k : Res → Prop} (g : k (.dat (.bool (!decide (i = j))))) : NeQ (.dat (.int i)) (.dat (.int j)) k := .d (.int g)
theorem neq_g {x y : Res} {d e : PyData} {k : Res → Prop} (h1 : x.data = some d) (h2 : y.data = some e) (h3 : SeqAt.shaped d = true) (h4 : SeqAt.shaped e = true) (g : k (.dat (.bool (!PyData.eqv d e)))) : NeQ x y k := .d (.gen h1 h2 h3 h4 g)
theorem opNeA : OpOk K (rNeA K) NeQ := by
  intro B H H1 x y rx ry k Q e0 e1 ox oy p q
  cases p with
  | d p => exact .inl (opNe B H H1 x y rx ry k Q e0 e1 ox oy p q)
  | s g =>
    cases ox; cases oy
    refine .inr ⟨rfl, q _ _ _ (Same.refl _) rBl ?_⟩
    rw [dec_str]
    exact g
theorem cut_map {α : Type} (f : α → PyData) (xs : List α) (lo hi : Option Int) : ∃ ys : List α, cutD (xs.map f) lo hi = ys.map f ∧ ys.length ≤ xs.length ∧ ∀ y ∈ ys, y ∈ xs := by
  unfold cutD
  rw [← List.map_drop, ← List.map_take]
  refine ⟨_, rfl, ?_, fun m hm => List.mem_of_mem_drop (List.mem_of_mem_take hm)⟩
  simp only [List.length_take, List.length_drop]
  omega
theorem mapsP {α : Type} (f : α → PyData) {P : α → Prop} : ∀ (out : List PyData), (∀ (i : Nat) (e : PyData), out[i]? = some e → ∃ n, e = f n ∧ P n) → ∃ ns : List α, out = ns.map f ∧ ∀ n ∈ ns, P n
  | [], _ => ⟨[], rfl, by simp⟩
  | d :: r, h => by
    obtain ⟨n, rfl, hn⟩ := h 0 d rfl
    obtain ⟨ns, rfl, hs⟩ := mapsP f r fun i e he => h (i + 1) e he
    exact ⟨n :: ns, rfl, fun x hx => by
      rcases List.mem_cons.mp hx with rfl | hx
      · exact hn
      · exact hs x hx⟩
/-- a loop, an invariant of what was walked -/
theorem forp_inv {β α : Type} {g : TG} {tb : TS} {nx : List Slot → Prop} {rt : Res → Prop} (xs : List β) (enc : β → PyData) (I : List β → α → Prop) (δI : α → List Slot) (h0 : ∃ a, I [] a ∧ Wk δ (δI a))
    (turn : ∀ (pre : List β) (x : β) (post : List β) (a : α), xs = pre ++ x :: post → I pre a → GS K g (.dat (enc x)) (δI a) fun δ' => SD K tb ⟨fun δ2 => ∃ a', I (pre ++ [x]) a' ∧ Wk δ2 (δI a'), rt, nx, fun δ2 => ∃ a', I (pre ++ [x]) a' ∧ Wk δ2 (δI a')⟩ δ')
    (fin : ∀ a, I xs a → nx (δI a)) : ForP K (xs.map enc) g tb nx rt δ := by
  refine ⟨α, fun i a => I (xs.take i) a, δI, h0, fun i a d hd ha => ?_, fun a ha => ?_⟩
  · rw [List.getElem?_map] at hd
    cases hx : xs[i]? with
    | none => rw [hx] at hd; cases hd
    | some x =>
      rw [hx] at hd
      cases hd
      obtain ⟨hi, hxi⟩ := List.getElem?_eq_some_iff.mp hx
      have e1 : xs.take (i + 1) = xs.take i ++ [x] := by rw [List.take_add_one, hx]; rfl
      have e2 : xs = xs.take i ++ x :: xs.drop (i + 1) := by
        rw [← hxi, ← List.drop_eq_getElem_cons hi, List.take_append_drop]
      have t := turn _ x _ a e2 ha
      rw [← e1] at t
      exact t
  · rw [List.length_map, List.take_length] at ha
    exact fin a ha
end
end Dl

/-! own layer: zip walked; in of a tuple -/
namespace Dl
variable [LamT] [XR]
open PySem PySem.Spec L2 PyProof.Rows RZ
section
variable {K : PySem.W.Frag} {δ : List Slot} {te : TE} {ta : TA}
theorem qZip {X : Cx} (K : PySem.W.Frag) {e e2 : Expr} {ta : TA} {p pos tpos : Pos} {elts : List Expr} {kk : Nat} (hm : X.mg "zip" = none) (ha : PA X [e, e2] ta) (h : X.K = K := by rfl) (hg : Gl X "zip" := by rfl)
    (hs : starEach [e, e2] X.env = (false, eval e X.env) :: starEach [e2] X.env := by rfl) (hpl : (backTo pos (starEach [e2] X.env)).any (·.1) = false := by rfl) :
    PI X (.Tuple elts kk tpos) (.Call (.Name "zip" p) [e, e2] [] pos) (iZipA K ta) := by subst h; exact pi_zipA hg hm ha hs hpl
/-- both lists, or both tuples -/
inductive ZipQ (f : Res → Option (List PyData)) : List Res → (List PyData → Prop) → Prop
  | l {x y : Res} {ds es : List PyData} {k : List PyData → Prop} : x.items = some ds → f x = some ds → y.items = some es → f y = some es → k (zipD ds es) → ZipQ f [x, y] k
  | t {ds es : List PyData} {k : List PyData → Prop} : k (zipD ds es) → ZipQ f [.dat (.tuple ds), .dat (.tuple es)] k
theorem still_l {B H0 H1 : Hp} {v : V} {r : Res} {ds : List PyData} (e1 : Same B H1) (o : ResOk K B H0 H1 v r) (hi : r.items = some ds) (h : r.still = some ds) : ∃ p vs, v = .ref p ∧ SqL K H1 p vs ∧ SqL K (core B H1) p vs ∧ ImAll K (core B H1) vs ds := by
  cases r with
  | dat d =>
    cases d <;> cases hi
    cases o with
    | lst h1 h2 => exact ⟨_, _, rfl, h1.seq, (h1.per core_per).seq, h2.to core_per⟩
  | bor es =>
    cases hi
    obtain ⟨p, vs, rfl, h1, h2⟩ := o
    exact ⟨p, vs, rfl, h1.seq e1, sqb_core e1 h1, h2.to core_per⟩
  | len es => cases h
  | fresh es => cases h
  | _ => cases h
theorem itl_zip {k : List PyData → Prop} (h : EvA K ta δ fun rs => ZipQ Res.still rs k) : ItL K (iZipA K ta) δ k := by
  intro B H σ R Rr q
  refine h B H σ R _ fun vs H1 rs e o z => ?_
  cases z with
  | l h1 h2 h3 h4 g =>
    cases o with
    | cons o1 o2 =>
      cases o2 with
      | cons o2 o3 =>
        cases o3
        obtain ⟨p, xs, rfl, a1, a2, a3⟩ := still_l (R.same.trans e) o1 h1 h2
        obtain ⟨r, ys, rfl, b1, b2, b3⟩ := still_l (R.same.trans e) o2 h3 h4
        exact ⟨p, r, xs, ys, rfl, .inl ⟨a1, b1, q _ H1 _ e (walk_zL a2 b2 a3 b3) g⟩⟩
  | t g =>
    cases o with
    | cons o1 o2 =>
      cases o2 with
      | cons o2 o3 =>
        cases o3
        cases o1 with
        | tup a1 a3 =>
          cases o2 with
          | tup b1 b3 => exact ⟨_, _, _, _, rfl, .inr ⟨a1, b1, q _ H1 _ e (walk_zT (sqt_per core_per a1) (sqt_per core_per b1) (a3.to core_per) (b3.to core_per)) g⟩⟩
theorem ite_zip {k : List PyData → Prop} (h : EvA K ta δ fun rs => ZipQ Res.items rs k) : ItE K (iZipA K ta) δ k := by
  intro B H σ R Rr q
  refine h B H σ R _ fun vs H1 rs e o z => ?_
  cases z with
  | l h1 h2 h3 h4 g =>
    cases o with
    | cons o1 o2 =>
      cases o2 with
      | cons o2 o3 =>
        cases o3
        obtain ⟨p, xs, rfl, a1, a2⟩ := o1.list (R.same.trans e) h1
        obtain ⟨r, ys, rfl, b1, b2⟩ := o2.list (R.same.trans e) h3
        exact ⟨p, r, xs, ys, rfl, .inl ⟨a1, b1, q _ H1 _ e (walk_zL a1 b1 a2 b2) g⟩⟩
  | t g =>
    cases o with
    | cons o1 o2 =>
      cases o2 with
      | cons o2 o3 =>
        cases o3
        cases o1 with
        | tup a1 a3 =>
          cases o2 with
          | tup b1 b3 => exact ⟨_, _, _, _, rfl, .inr ⟨a1, b1, q _ H1 _ e (walk_zT a1 b1 a3 b3) g⟩⟩
/-! ### in, not in: lists and tuples -/
def rInT (f : Bool → Bool) (K : PySem.W.Frag) : R2 := fun x y H Q => ∃ d ds, Dp K H x d ∧ Dp K H y (.tuple ds) ∧ SeqAt.shaped d = true ∧ SeqAt.shaped (.tuple ds) = true ∧ Q (.bl (f (ds.any fun z => PyData.eqv z d))) H
theorem op_inT {X : Cx} (hu : X.A.units + 65 < cLine) : OpR X (compareOp .In) (rInT id X.K) := by
  intro pins s σ H x y v u Q I rx ry h
  obtain ⟨d, ds, hd, he, sd, se, q⟩ := h
  obtain ⟨as, r1⟩ := Dp.reads I d x v hd rx
  obtain ⟨bs, r2⟩ := Dp.reads I (.tuple ds) y u he ry
  exact SeqAt.in_tuple_reads r2 r1 (SeqAt.canLay_of_shaped se) (SeqAt.canLay_of_shaped sd) (room_in_shaped sd hu) ⟨.bl _, H, I, rfl, q⟩
theorem op_notInT {X : Cx} (hu : X.A.units + 65 < cLine) : OpR X (compareOp .NotIn) (rInT not X.K) := by
  intro pins s σ H x y v u Q I rx ry h
  obtain ⟨d, ds, hd, he, sd, se, q⟩ := h
  obtain ⟨as, r1⟩ := Dp.reads I d x v hd rx
  obtain ⟨bs, r2⟩ := Dp.reads I (.tuple ds) y u he ry
  exact SeqAt.notIn_tuple_reads r2 r1 (SeqAt.canLay_of_shaped se) (SeqAt.canLay_of_shaped sd) (room_in_shaped sd hu) ⟨.bl _, H, I, rfl, q⟩
/-- in, not in: a dict -/
def rInDic (K : PySem.W.Frag) (f : Bool → Bool) : R2 := fun x y H Q => ∃ a o, y = .ref a ∧ DGetA K H a x o ∧ Q (.bl (f o.isSome)) H
theorem op_inDic {X : Cx} (hu : X.A.units + 1 < cLine) : OpR X (compareOp .In) (rInDic X.K id) := by
  intro pins s σ H x y v u Q I rx ry h
  obtain ⟨a, o, rfl, g, q⟩ := h
  obtain rfl : u = Value.ref a := ry
  exact d_inA hu I g rx fun s' I' => ⟨.bl o.isSome, H, I', rfl, q⟩
theorem op_notInDic {X : Cx} (hu : X.A.units + 1 < cLine) : OpR X (compareOp .NotIn) (rInDic X.K not) := by
  intro pins s σ H x y v u Q I rx ry h
  obtain ⟨a, o, rfl, g, q⟩ := h
  obtain rfl : u = Value.ref a := ry
  exact d_notInA hu I g rx fun s' I' => ⟨.bl (!o.isSome), H, I', rfl, q⟩
def rInA (K : PySem.W.Frag) : R2 := fun x y H Q => (rInD K x y H Q ∨ rInT id K x y H Q) ∨ rInDic K id x y H Q
def rNotInA (K : PySem.W.Frag) : R2 := fun x y H Q => (rNotInD K x y H Q ∨ rInT not K x y H Q) ∨ rInDic K not x y H Q
theorem qInA {X : Cx} (K : PySem.W.Frag) (hu : X.A.units + 65 < cLine) (h : X.K = K := by rfl) : OpR X (compareOp .In) (rInA K) := by subst h; exact .or (.or (op_inD hu) (op_inT hu)) (op_inDic (by omega))
theorem qNotInA {X : Cx} (K : PySem.W.Frag) (hu : X.A.units + 65 < cLine) (h : X.K = K := by rfl) : OpR X (compareOp .NotIn) (rNotInA K) := by subst h; exact .or (.or (op_notInD hu) (op_notInT hu)) (op_notInDic (by omega))
inductive InQ (f : Bool → Bool) : Res → Res → (Res → Prop) → Prop
  | l {x y : Res} {k : Res → Prop} : InP f x y k → InQ f x y k
  | t {x : Res} {d : PyData} {ds : List PyData} {k : Res → Prop} : x.data = some d → SeqAt.shaped d = true → SeqAt.shaped (.tuple ds) = true → k (.dat (.bool (f (ds.any fun z => PyData.eqv z d)))) → InQ f x (.dat (.tuple ds)) k
  | dic {y : Res} {t : Bool} {ds : List (PyData × PyData)} {key : PyData} {o : Option PyData} {k : Res → Prop} : y.dic = some (t, ds) → KeyR t ds key o → k (.dat (.bool (f o.isSome))) → InQ f (.dat key) y k
theorem indic {f : Bool → Bool} {B H H1 : Hp} {x y : V} {ry : Res} {t : Bool} {ds : List (PyData × PyData)} {key : PyData} {o : Option PyData} {k : Res → Prop} {Q : VK} (e : Same B H1) (ox : ResOk K B H H1 x (.dat key)) (oy : ResOk K B H H1 y ry)
    (hx : ry.dic = some (t, ds)) (hk : KeyR t ds key o) (g : k (.dat (.bool (f o.isSome)))) (q : ∀ z H2 rz, Same H1 H2 → ResOk K B H H2 z rz → k rz → Q z H2) : rInDic K f x y H1 Q := by
  obtain ⟨p, ob, rfl, h1, h2⟩ := oy.dicR e hx
  rcases dget_of h2 h1 ox hk with ⟨z, h3⟩ | ⟨w, d, z, h3, h4⟩
  · cases z
    exact ⟨p, none, rfl, h3, q _ _ _ (Same.refl _) rBl g⟩
  · cases z
    exact ⟨p, some w, rfl, h3, q _ _ _ (Same.refl _) rBl g⟩
theorem opInA : OpOk K (rInA K) (InQ id) := by
  intro B H H1 x y rx ry k Q e0 e1 ox oy p q
  cases p with
  | l p => exact .inl (.inl (opIn B H H1 x y rx ry k Q e0 e1 ox oy p q))
  | t hx sx sy g => exact .inl (.inr ⟨_, _, ox.dp (e0.trans e1) hx (nd_of_shaped sx), oy.dp (e0.trans e1) rfl (nd_of_shaped sy), sx, sy, q _ _ _ (Same.refl _) rBl g⟩)
  | dic hx hk g => exact .inr (indic (e0.trans e1) ox oy hx hk g q)
theorem opNotInA : OpOk K (rNotInA K) (InQ not) := by
  intro B H H1 x y rx ry k Q e0 e1 ox oy p q
  cases p with
  | l p => exact .inl (.inl (opNotIn B H H1 x y rx ry k Q e0 e1 ox oy p q))
  | t hx sx sy g => exact .inl (.inr ⟨_, _, ox.dp (e0.trans e1) hx (nd_of_shaped sx), oy.dp (e0.trans e1) rfl (nd_of_shaped sy), sx, sy, q _ _ _ (Same.refl _) rBl g⟩)
  | dic hx hk g => exact .inr (indic (e0.trans e1) ox oy hx hk g q)
theorem inq_l {f : Bool → Bool} {x y : Res} {d : PyData} {ds : List PyData} {k : Res → Prop} (h1 : x.data = some d) (h2 : y.items = some ds) (h3 : SeqAt.shaped d = true) (h4 : SeqAt.shaped (.list ds) = true) (g : k (.dat (.bool (f (ds.any fun z => PyData.eqv z d))))) : InQ f x y k := .l (.lst h1 h2 h3 h4 g)
end
end Dl

/-! own layer: max, min, sorted of a list of ints; a break's loop -/
namespace Dl
variable [LamT] [XR]
open PySem PySem.Spec L2 PyProof.Rows
section
variable {K : PySem.W.Frag} {δ : List Slot} {te : TE} {ta : TA}
theorem qMax1 {X : Cx} (K : PySem.W.Frag) (h : X.K = K := by rfl) (hc : X.calm = true := by rfl) : CallR X (.builtin "max") (rMax K) := by subst h; exact cr_max hc
theorem qMin1 {X : Cx} (K : PySem.W.Frag) (h : X.K = K := by rfl) (hc : X.calm = true := by rfl) : CallR X (.builtin "min") (rMin K) := by subst h; exact cr_min hc
theorem qSorted {X : Cx} (K : PySem.W.Frag) (h : X.K = K := by rfl) : CallR X (.builtin "sorted") (rSortedI K) := by subst h; exact cr_sortedI
theorem im_ints {H : Hp} {vs : List V} {ns : List Int} (h : ImAll K H vs (ns.map .int)) : vs = ns.map V.int := by
  have := h.of_ints
  exact this
inductive MaxP : List Res → (Res → Prop) → Prop
  | mk {x : Res} {ns : List Int} {k : Res → Prop} : x.items = some (ns.map .int) → 0 < ns.length → (∀ m, m ∈ ns → (∀ y, y ∈ ns → y ≤ m) → k (.dat (.int m))) → MaxP [x] k
theorem cbMax1 : CbOk K (rMax K) MaxP := by
  intro B H H1 vs rs k Q e0 e1 o p q
  cases p with
  | mk hx hl g =>
    cases o with
    | cons o1 o2 =>
      cases o2
      obtain ⟨a, xs, rfl, h1, h2⟩ := o1.list (e0.trans e1) hx
      rw [im_ints h2] at h1
      exact ⟨a, _, rfl, h1, hl, fun m hm hy => q _ _ _ (Same.refl _) rInt (g m hm hy)⟩
inductive MinP : List Res → (Res → Prop) → Prop
  | mk {x : Res} {ns : List Int} {k : Res → Prop} : x.items = some (ns.map .int) → 0 < ns.length → (∀ m, m ∈ ns → (∀ y, y ∈ ns → m ≤ y) → k (.dat (.int m))) → MinP [x] k
theorem cbMin1 : CbOk K (rMin K) MinP := by
  intro B H H1 vs rs k Q e0 e1 o p q
  cases p with
  | mk hx hl g =>
    cases o with
    | cons o1 o2 =>
      cases o2
      obtain ⟨a, xs, rfl, h1, h2⟩ := o1.list (e0.trans e1) hx
      rw [im_ints h2] at h1
      exact ⟨a, _, rfl, h1, hl, fun m hm hy => q _ _ _ (Same.refl _) rInt (g m hm hy)⟩
inductive SortP : List Res → (Res → Prop) → Prop
  | mk {x : Res} {ns : List Int} {k : Res → Prop} : x.items = some (ns.map .int) → (∀ ms : List Int, ms.Perm ns → ms.Pairwise (· ≤ ·) → k (.fresh (ms.map .int))) → SortP [x] k
theorem cbSorted : CbOk K (rSortedI K) SortP := by
  intro B H H1 vs rs k Q e0 e1 o p q
  cases p with
  | mk hx g =>
    cases o with
    | cons o1 o2 =>
      cases o2
      obtain ⟨a, xs, rfl, h1, h2⟩ := o1.list (e0.trans e1) hx
      rw [im_ints h2] at h1
      exact ⟨a, _, rfl, h1, fun ms l hp hs hl => q _ _ _ (same_new hl) (rFreshN e1 hl (ImAll.ints ms)) (g ms hp hs)⟩
end
end Dl

/-! own layer: sorted(set(xs)), xs a list of tuples of ints -/
namespace Dl
variable [LamT] [XR]
open PySem PySem.Spec L2 PyProof.Rows
section
variable {K : PySem.W.Frag} {P : Program} {w : World} {δ : List Slot} {te : TE} {k : Res → Prop}
def tupD (m : List Int) : PyData := .tuple (m.map .int)
theorem im_tups {H : Hp} : ∀ (vs : List V) (cs : List (List Int)), ImAll K H vs (cs.map tupD) → ∃ ks : List (Addr × List Int), vs = ks.map (fun p => V.ref p.1) ∧ ks.map (·.2) = cs ∧ ∀ p ∈ ks, SqT K H p.1 (p.2.map V.int) ∧ Trk H p.1 (p.2.map V.int)
  | [], [], _ => ⟨[], rfl, rfl, by simp⟩
  | v :: vs, c :: cs, .cons h1 h2 => by
    obtain ⟨ks, e1, e2, e3⟩ := im_tups vs cs h2
    cases h1 with
    | @tup a xs _ q im tr =>
      rw [im_ints im] at q tr
      refine ⟨(a, c) :: ks, by rw [e1]; rfl, by rw [← e2]; rfl, fun p hp => ?_⟩
      rcases List.mem_cons.mp hp with rfl | hp
      · exact ⟨q, tr⟩
      · exact e3 p hp
theorem tups_im {H : Hp} : ∀ (ks : List (Addr × List Int)), (∀ p ∈ ks, SqT K H p.1 (p.2.map V.int) ∧ Trk H p.1 (p.2.map V.int)) → ImAll K H (ks.map fun p => V.ref p.1) ((ks.map (·.2)).map tupD)
  | [], _ => .nil
  | p :: ks, h =>   .cons (.tup (h p (by simp)).1 (ImAll.ints p.2) (h p (by simp)).2) (tups_im ks fun q hq => h q (List.mem_cons_of_mem _ hq))
theorem qSortT {X : Cx} (K : PySem.W.Frag) (P : Program) (w : World) (h : X.K = K := by rfl) (hP : X.prog = P := by rfl) (hw : X.w = w := by rfl) (hc : X.calm = true := by rfl) : CallR X (.builtin "sorted") (rSortedT K P w) := by subst h hP hw; exact cr_sortedT hc
theorem qSetT {X : Cx} (K : PySem.W.Frag) (P : Program) (w : World) (hu : X.A.units + 64 < cLine) (h : X.K = K := by rfl) (hP : X.prog = P := by rfl) (hw : X.w = w := by rfl) (hc : X.calm = true := by rfl) : CallR X (.type "set") (rSetOfT K P w) := by subst h hP hw; exact cr_setOfT hc hu
theorem ec_sortSet (h : EvC K te δ fun x => ∃ (cs : List (List Int)) (d : Nat) (B : Int), x.items = some (cs.map tupD) ∧ cs.length < 64 ∧ 1 ≤ d ∧ (∀ c ∈ cs, c.length = d ∧ TS.Bd B c) ∧
    ∀ ms : List (List Int), ms.Nodup → (∀ m, m ∈ ms ↔ m ∈ cs) → ms.length < 64 → ms.Pairwise (fun q r => TS.code B q ≤ TS.code B r) → k (.fresh (ms.map tupD))) :
    EvC K (tCB (rSortedT K P w) (tCons (tCB (rSetOfT K P w) (tCons te tNil)) tNil)) δ k := by
  intro B H σ R Q q
  refine h B H σ R _ fun v H1 x e o ⟨cs, d, Bd, hx, hl, hd, hc, g⟩ => ?_
  obtain ⟨p, vs, rfl, h1, h2⟩ := o.list (R.same.trans e) hx
  obtain ⟨ks, e1, e2, e3⟩ := im_tups vs cs h2
  rw [e1] at h1
  have hkl : ks.length < 64 := by rw [← e2, List.length_map] at hl; exact hl
  refine ⟨p, ks, rfl, h1, fun p hp => (e3 p hp).1, hkl, fun a L ha s1 s2 => ?_⟩
  have sm : Same H1 (upd H1 a (SetTO P w a L)) := same_new ha
  refine ⟨a, L, d, Bd, rfl, upd_same, fun p hp => sqt_per (per_same sm) (e3 p (s1 p hp)).1, hd, fun p hp => hc p.2 ?_, fun L' r hp hn hl' hs hr => ?_⟩
  · rw [← e2]
    exact List.mem_map_of_mem (s1 p hp)
  · have sub : ∀ p ∈ L', p ∈ ks := fun p hp' => s1 p (hp.mem_iff.mp hp')
    have e4 : (L'.map fun q => V.ref q.1) = (L'.map fun p => V.ref p.1) := rfl
    refine q _ _ _ (e.trans (sm.trans (same_new hr))) (rFreshN (e.trans sm) hr (ds := (L'.map (·.2)).map tupD) (tups_im L' fun p hp' => ⟨sqt_per (per_same sm) (e3 p (sub p hp')).1, (e3 p (sub p hp')).2.per (per_same sm)⟩)) (g _ hn (fun m => ⟨fun hm => ?_, fun hm => ?_⟩) (by rw [List.length_map]; exact hl') (List.pairwise_map.mpr hs))
    · obtain ⟨p, hp', rfl⟩ := List.mem_map.mp hm
      rw [← e2]
      exact List.mem_map_of_mem (sub p hp')
    · rw [← e2] at hm
      obtain ⟨p, hp', rfl⟩ := List.mem_map.mp hm
      have := s2 p hp'
      obtain ⟨p2, hp2, e5⟩ := List.mem_map.mp this
      rw [← e5]
      exact List.mem_map_of_mem (hp.mem_iff.mpr hp2)
end
end Dl

/-! own layer: a tuple times 1 -/
namespace Dl
variable [LamT] [XR]
open PySem PySem.Spec L2 PyProof.Rows
theorem tuple_mul_same (l : Addr) (items : Array Value) (n : Nat) (dd : Option Addr) (sl : Array (Option Value)) (x : Int) (u : Tok) (c0 : (decide (x < -(2 ^ 63)) || decide (x ≥ 2 ^ 63)) = false) (c1 : (items.isEmpty || x == 1) = true) :
    Meets (Builtin.«tuple.__mul__» ⟨[.ref l, .int x u], []⟩) (fun _ R s => s.heap.get? l = some { cls := .type "tuple", dict := dd, data := .seq items n, slots := sl } ∧ R (.ok (.ret (Value.ref l))) s) :=
  .of_wp fun prog w A R s h => by
    obtain ⟨hp, g, d, tk, os⟩ := s
    obtain ⟨hl, h⟩ := h
    have f1 := AutoSeq1.idx_int
    wp_walk using wpAny_loadPart' hl
    repeat (first
      | (refine wpAny_ite_false (decide_eq_false (by rw [c0]; exact Bool.false_ne_true)) ?_; wp_walk using wpAny_loadPart' hl)
      | (refine wpAny_ite_true (decide_eq_true c1) ?_; wp_walk using wpAny_loadPart' hl)
      | (rw [if_pos c1]; wp_walk using wpAny_loadPart' hl))
    exact ⟨_, rfl, h⟩
def rRep1 (K : PySem.W.Frag) : R2 := fun x y H Q => ∃ l k xs, x = .ref l ∧ y = .int k ∧ SqT K H l xs ∧ (xs = [] ∧ -(2 ^ 63) ≤ k ∧ k < 2 ^ 63 ∨ k = 1) ∧ Q (.ref l) H
theorem op_rep1 {X : Cx} : OpR X (binaryOp .Mult) (rRep1 X.K) := by
  intro pins s σ H x y v u Q I rx ry h
  obtain ⟨l, k, xs, rfl, rfl, hT, hk, q⟩ := h
  cases rx
  obtain ⟨t, rfl⟩ := ry
  obtain ⟨its, r, ⟨⟨cls, dd, data, sl⟩, ho, hc, n, hd⟩, hs⟩ := I.tuple hT
  simp only at hc hd
  subst hc hd
  have c0 : (decide (k < -(2 ^ 63)) || decide (k ≥ 2 ^ 63)) = false := by
    rw [decide_eq_false (by omega), decide_eq_false (by omega)] <;> rfl
  have c1 : (its.toArray.isEmpty || k == 1) = true := by
    rcases hk with ⟨rfl, _⟩ | rfl
    · cases r
      rfl
    · simp
  exact wpAny_binaryOp_repeat_ref (T := "tuple") (U := "int") (by decide) ⟨_, ho, rfl⟩ (fun s' => typeIs_int s' k t) noFill_tuple_mul F.fills_int_mul F.slot_int_rmul repeat_tuple F.slot_int_index.lookup
    (call_meets F.slot_int_rmul (typeIs_int s k t) F.entry_int_rmul (F.args_int_rmul_2 _ _) (int_rmul_tuple k t l its.toArray n dd sl)
      ⟨ho, rfl, ⟨_, ho, rfl⟩, call_meets F.slot_tuple_mul ⟨_, ho, rfl⟩ F.entry_tuple_mul (F.args_tuple_mul_2 _ _) (tuple_mul_same l its.toArray n dd sl k t c0 c1) ⟨ho, .ref l, H, I, rfl, q⟩⟩)
section
variable {K : PySem.W.Frag} {k : Res → Prop}
def rMulB (K : PySem.W.Frag) : R2 := fun x y H Q => rMulA K x y H Q ∨ rRep1 K x y H Q
theorem qMulB {X : Cx} (K : PySem.W.Frag) (h : X.K = K := by rfl) : OpR X (binaryOp .Mult) (rMulB K) := by subst h; exact .or (qMulA X.K) op_rep1
inductive MulR : Res → Res → (Res → Prop) → Prop
  | q {x y : Res} {k : Res → Prop} : MulQ x y k → MulR x y k
  | one {ds : List PyData} {n : Int} {k : Res → Prop} : (ds = [] ∧ -(2 ^ 63) ≤ n ∧ n < 2 ^ 63 ∨ n = 1) → k (.dat (.tuple ds)) → MulR (.dat (.tuple ds)) (.dat (.int n)) k
theorem opMulB : OpOk K (rMulB K) MulR := by
  intro B H H1 x y rx ry k Q e0 e1 ox oy p q
  cases p with
  | q p => exact .inl (opMulA B H H1 x y rx ry k Q e0 e1 ox oy p q)
  | one hn g =>
    cases ox with
    | tup sx ix tx =>
      cases oy
      refine .inr ⟨_, _, _, rfl, rfl, sx, ?_, q _ _ _ (Same.refl _) (rTup sx ix tx) g⟩
      rcases hn with ⟨rfl, h⟩ | h
      · cases ix
        exact .inl ⟨rfl, h⟩
      · exact .inr h
theorem mulr_l {i j : Int} (h1 : -(2 ^ 64) < i) (h2 : i < 2 ^ 64) (g : k (.dat (.int (i * j)))) : MulR (.dat (.int i)) (.dat (.int j)) k := .q (mulq_l h1 h2 g)
theorem mulr_r {i j : Int} (h1 : -(2 ^ 64) < j) (h2 : j < 2 ^ 64) (g : k (.dat (.int (i * j)))) : MulR (.dat (.int i)) (.dat (.int j)) k := .q (mulq_r h1 h2 g)
theorem mulr_w {i j : Int} (h : CMulW i j) (g : k (.dat (.int (i * j)))) : MulR (.dat (.int i)) (.dat (.int j)) k := .q (mulq_w h g)
theorem mulr_lst {x : Res} {ds : List PyData} {n : Int} (h1 : x.mine = some ds) (h2 : -(2 ^ 63) ≤ n) (h3 : n < 2 ^ 63) (h4 : ds.length * n.toNat ≤ sizeLine) (g : k (.fresh (List.replicate n.toNat ds).flatten)) : MulR x (.dat (.int n)) k := .q (.w (.lst h1 h2 h3 h4 g))
/-- a tuple times a small number -/
theorem mulr_tup {ds : List PyData} {n : Int} (h1 : 0 < n) (h2 : n ≤ 1000) (h3 : ds.length ≤ 1000) (g : k (.dat (.tuple (List.replicate n.toNat ds).flatten))) : MulR (.dat (.tuple ds)) (.dat (.int n)) k := by
  by_cases h : n = 1
  · subst h
    refine .one (.inr rfl) ?_
    have e : (List.replicate (1 : Int).toNat ds).flatten = ds := by simp
    rw [e] at g
    exact g
  · cases ds with
    | nil =>
      refine .one (.inl ⟨rfl, by omega, by omega⟩) ?_
      have e : (List.replicate n.toNat ([] : List PyData)).flatten = [] := by simp
      rw [e] at g
      exact g
    | cons d r => exact .q (.w (.tup (by simp) (by omega) h2 h3 g))
end
end Dl

/-! own layer: cuts told, shaped lists, == [] -/
namespace Dl
variable [LamT] [XR]
open PySem PySem.Spec L2 PyProof.Rows
section
variable {K : PySem.W.Frag} {δ : List Slot} {k : Res → Prop}
theorem cut_take (ds : List PyData) {r : Nat} (h : r ≤ ds.length) : cutD ds none (some ((r : Nat) : Int)) = ds.take r := by
  unfold cutD
  have e1 : HT.sIx ds.length 0 none = 0 := by unfold HT.sIx; rfl
  have e2 : HT.sIx ds.length ds.length (some ((r : Nat) : Int)) = r := by
    unfold HT.sIx
    dsimp only
    split <;> omega
  rw [e1, e2]
  rfl
theorem cut_drop (ds : List PyData) (j : Nat) : cutD ds (some ((j : Nat) : Int)) none = ds.drop j := by
  unfold cutD
  have e1 : HT.sIx ds.length 0 (some ((j : Nat) : Int)) = min j ds.length := by
    unfold HT.sIx
    dsimp only
    split <;> omega
  have e2 : HT.sIx ds.length ds.length none = ds.length := by unfold HT.sIx; rfl
  rw [e1, e2]
  by_cases h : j ≤ ds.length
  · rw [Nat.min_eq_left h, List.take_of_length_le (by rw [List.length_drop]; omega)]
  · rw [Nat.min_eq_right (by omega), Nat.sub_self, List.take_zero, List.drop_eq_nil_of_le (by omega)]
/-- data whose parts are laid and not deep -/
theorem laid_all {n : Nat} : ∀ (ds : List PyData), (∀ d ∈ ds, d.canLay0 = true ∧ d.depth ≤ n) → PyData.canLayAll0 ds = true ∧ PyData.depthAll ds ≤ n
  | [], _ => by simp [PyData.canLayAll0, PyData.depthAll]
  | d :: r, h => by
    obtain ⟨h1, h2⟩ := laid_all r fun x hx => h x (List.mem_cons_of_mem _ hx)
    obtain ⟨g1, g2⟩ := h d (by simp)
    simp only [PyData.canLayAll0, PyData.depthAll, g1, h1, Bool.and_self, true_and]
    omega
theorem sh_lst {ds : List PyData} (n : Nat) (hn : n ≤ 60) (h : ∀ d ∈ ds, d.canLay0 = true ∧ d.depth ≤ n) : SeqAt.shaped (.list ds) = true := by
  obtain ⟨h1, h2⟩ := laid_all ds h
  unfold SeqAt.shaped
  simp only [PyData.canLay0, h1, PyData.depth, Bool.true_and]
  exact decide_eq_true (by omega)
theorem sh_tup {ds : List PyData} (n : Nat) (hn : n ≤ 60) (h : ∀ d ∈ ds, d.canLay0 = true ∧ d.depth ≤ n) : SeqAt.shaped (.tuple ds) = true := by
  obtain ⟨h1, h2⟩ := laid_all ds h
  unfold SeqAt.shaped
  simp only [PyData.canLay0, h1, PyData.depth, Bool.true_and]
  exact decide_eq_true (by omega)
theorem laid_int (i : Int) : PyData.canLay0 (.int i) = true ∧ PyData.depth (.int i) ≤ 0 := by simp [PyData.canLay0, PyData.depth]
theorem sh_ints {α : Type} (f : α → Int) (xs : List α) : SeqAt.shaped (.list (xs.map fun x => .int (f x))) = true := sh_lst 0 (by decide) fun d hd => by
  obtain ⟨x, _, rfl⟩ := List.mem_map.mp hd
  exact laid_int _
theorem eqv_nil (ds : List PyData) : PyData.eqv (.list ds) (.list []) = ds.isEmpty := by
  cases ds with
  | nil => decide +kernel
  | cons d r => simp [PyData.eqv, PyData.eqvAll]
theorem sh_nil : SeqAt.shaped (.list []) = true := by decide +kernel
theorem neq_nil {x : Res} {ds : List PyData} (h : x.data = some (.list ds)) (hs : SeqAt.shaped (.list ds) = true) (g : k (.dat (.bool (!ds.isEmpty)))) : NeQ x (.fresh []) k := by
  refine neq_g h rfl hs sh_nil ?_
  rw [eqv_nil]
  exact g
theorem eqq_nil {x : Res} {ds : List PyData} (h : x.data = some (.list ds)) (hs : SeqAt.shaped (.list ds) = true) (g : k (.dat (.bool ds.isEmpty))) : EqQ x (.fresh []) k := by
  refine eqq_g h rfl hs sh_nil ?_
  rw [eqv_nil]
  exact g
end
end Dl

/-! own layer: a word times a number -/
namespace Dl
variable [LamT] [XR]
open PySem PySem.Spec L2 PyProof.Rows
def repS (a : Str) (n : Int) : Str := ⟨(List.replicate n.toNat a.cps).foldl (· ++ ·) #[]⟩
theorem repS_size (c : Array Nat) : ∀ (n : Nat) (acc : Array Nat), ((List.replicate n c).foldl (· ++ ·) acc).size = acc.size + n * c.size
  | 0, acc => by simp
  | n + 1, acc => by
    rw [List.replicate_succ, List.foldl_cons, repS_size c n, Array.size_append, Nat.add_mul]
    omega
def rMulS : R2 := fun x y H Q => ∃ (a : Str) (n : Int), x = .str a ∧ y = .int n ∧ 2 ≤ n ∧ n ≤ 1000 ∧ 0 < a.length ∧ a.length ≤ 1000 ∧ Q (.str (repS a n)) H
theorem op_mulS {X : Cx} : OpR X (binaryOp .Mult) rMulS := by
  intro pins s σ H x y v u Q I rx ry h
  obtain ⟨a, n, rfl, rfl, h1, h2, h3, h4, q⟩ := h
  obtain ⟨t, rfl⟩ := rx
  obtain ⟨t', rfl⟩ := ry
  have hne : (n == 1 || a.length == 0) = false := by
    rw [Bool.or_eq_false_iff]
    exact ⟨beq_eq_false_iff_ne.mpr (by omega), beq_eq_false_iff_ne.mpr (by omega)⟩
  refine P.mul_str (by rw [decide_eq_false (by omega), decide_eq_false (by omega)]; rfl) (fun _ _ => ?_) (fun _ _ => ?_) ?_
  · have : (1000 : Int) ≤ (2 ^ 63 - 1) / n := by
      refine (Int.le_ediv_iff_mul_le (by omega)).mpr ?_
      omega
    omega
  · unfold Builtin.Str.tooLong
    refine decide_eq_false ?_
    have := Nat.mul_le_mul h4 (show n.toNat ≤ 1000 by omega)
    have e : sizeLine = 16777216 := by decide
    omega
  · rw [if_neg (by omega), if_neg (by rw [hne]; exact Bool.false_ne_true)]
    refine ⟨?_, ⟨.str (repS a n), H, I.tok _, ⟨_, rfl⟩, q⟩⟩
    have := Nat.mul_le_mul (show n.toNat ≤ 1000 by omega) h4
    have e : sizeLine = 16777216 := by decide
    show (List.foldl _ #[] (List.replicate n.toNat a.cps)).size ≤ sizeLine
    rw [repS_size, Array.size_empty]
    have hs : a.cps.size = a.length := rfl
    rw [hs]
    omega
section
variable {K : PySem.W.Frag} {k : Res → Prop}
def rMulC (K : PySem.W.Frag) : R2 := fun x y H Q => rMulB K x y H Q ∨ rMulS x y H Q
theorem qMulC {X : Cx} (K : PySem.W.Frag) (h : X.K = K := by rfl) : OpR X (binaryOp .Mult) (rMulC K) := by subst h; exact .or (qMulB X.K) op_mulS
inductive MulT : Res → Res → (Res → Prop) → Prop
  | r {x y : Res} {k : Res → Prop} : MulR x y k → MulT x y k
  | s {a : Str} {n : Int} {k : Res → Prop} : 2 ≤ n → n ≤ 1000 → 0 < a.length → a.length ≤ 1000 → k (.dat (.str (repS a n))) → MulT (.dat (.str a)) (.dat (.int n)) k
theorem opMulC : OpOk K (rMulC K) MulT := by
  intro B H H1 x y rx ry k Q e0 e1 ox oy p q
  cases p with
  | r p => exact .inl (opMulB B H H1 x y rx ry k Q e0 e1 ox oy p q)
  | s h1 h2 h3 h4 g =>
    cases ox; cases oy
    exact .inr ⟨_, _, rfl, rfl, h1, h2, h3, h4, q _ _ _ (Same.refl _) (rIm (.str _)) g⟩
theorem mult_l {i j : Int} (h1 : -(2 ^ 64) < i) (h2 : i < 2 ^ 64) (g : k (.dat (.int (i * j)))) : MulT (.dat (.int i)) (.dat (.int j)) k := .r (mulr_l h1 h2 g)
theorem mult_r {i j : Int} (h1 : -(2 ^ 64) < j) (h2 : j < 2 ^ 64) (g : k (.dat (.int (i * j)))) : MulT (.dat (.int i)) (.dat (.int j)) k := .r (mulr_r h1 h2 g)
theorem mult_w {i j : Int} (h : CMulW i j) (g : k (.dat (.int (i * j)))) : MulT (.dat (.int i)) (.dat (.int j)) k := .r (mulr_w h g)
theorem mult_lst {x : Res} {ds : List PyData} {n : Int} (h1 : x.mine = some ds) (h2 : -(2 ^ 63) ≤ n) (h3 : n < 2 ^ 63) (h4 : ds.length * n.toNat ≤ sizeLine) (g : k (.fresh (List.replicate n.toNat ds).flatten)) : MulT x (.dat (.int n)) k := .r (mulr_lst h1 h2 h3 h4 g)
theorem mult_tup {ds : List PyData} {n : Int} (h1 : 0 < n) (h2 : n ≤ 1000) (h3 : ds.length ≤ 1000) (g : k (.dat (.tuple (List.replicate n.toNat ds).flatten))) : MulT (.dat (.tuple ds)) (.dat (.int n)) k := .r (mulr_tup h1 h2 h3 g)
end
end Dl

/-! own layer: sorted of pairs, min of tuples of ints, a star in a display, list(range(n)) -/
namespace Dl
variable [LamT] [XR]
open PySem PySem.Spec L2 PyProof.Rows
/-! ### sorted(xs), xs pairs of ints -/
section
variable {K : PySem.W.Frag}
def rSortedQ (K : PySem.W.Frag) : List V → Hp → VK → Prop := fun vs H Q => ∃ (a : Addr) (ks : List (Addr × List Int)), vs = [V.ref a] ∧ SqL K H a (ks.map fun p => V.ref p.1) ∧ (∀ p ∈ ks, p.2.length = 2 ∧ SqT K H p.1 (p.2.map V.int)) ∧
  ∀ (L : List (Addr × List Int)) (q : Addr), L.Perm ks → L.Pairwise (fun x y => HT.lexLt y.2 x.2 = false) → H q = none → Q (.ref q) (upd H q (.lst (L.map fun p => V.ref p.1)))
def prOf (l : List Int) : Int × Int := (l.getD 0 0, l.getD 1 0)
theorem lex_pr : ∀ {a b : List Int}, a.length = 2 → b.length = 2 → SrtO.lexB (prOf a) (prOf b) = HT.lexLt a b
  | [a, b], [c, d], _, _ => by
    show SrtO.lexB (a, b) (c, d) = _
    rw [HT.lexLt_cons, HT.lexLt_cons, HT.lexLt_nil_nil]
    unfold SrtO.lexB
    dsimp only
    by_cases e : a = c
    · rw [if_pos e, if_pos e]
      by_cases e2 : b = d
      · rw [if_pos e2]
        exact decide_eq_false (by omega)
      · rw [if_neg e2]
    · rw [if_neg e, if_neg e]
theorem tupInts_at {X : Cx} {pins : List (Addr × Obj)} {σ : L2.St} {H : Hp} {s : Shared} (I : Inv X pins σ H s) {t : Addr} {c : List Int} (h : SqT X.K H t (c.map V.int)) : TS.TupInts s.heap (.ref t) c := by
  obtain ⟨its, r, p, _⟩ := I.tuple h
  exact ⟨t, its.toArray, rfl, p, intsAre_of r⟩
theorem cr_sortedQ {X : Cx} : CallR X (.builtin "sorted") (rSortedQ X.K) := by
  intro pins s σ H vs us Q I r h
  obtain ⟨a, ks, rfl, hs, hk, q⟩ := h
  obtain ⟨its, rv, hl, hz⟩ := I.list hs
  obtain ⟨u, rfl, ru⟩ := vals1 r
  obtain rfl : u = Value.ref a := ru
  have ei : its = ks.map fun p => Value.ref p.1 := refs_of_vals rv
  have at_ : ∀ p ∈ ks, TS.intsOf s.heap (.ref p.1) = p.2 := fun p hp => (tupInts_at I (hk p hp).2).ints
  refine SrtO.sorted_pairsO (k := fun u => prOf (TS.intsOf s.heap u)) hl.isList (by rw [← rv.length]; exact hz) (fun v hv => ?_) fun h' d out h1 h2 kp hd hn => ?_
  · rw [ei] at hv
    obtain ⟨p, hp, rfl⟩ := List.mem_map.mp hv
    obtain ⟨hl2, ht⟩ := hk p hp
    rw [at_ p hp]
    obtain ⟨its2, r2, ⟨o, ho, hc, n, hd⟩, _⟩ := I.tuple ht
    obtain ⟨t, c⟩ := p
    match c, hl2, r2 with
    | [i, j], _, r2 =>
      obtain ⟨u1, u2, rfl, ri, rj⟩ := vals2 r2
      obtain ⟨t1, rfl⟩ := ri
      obtain ⟨t2, rfl⟩ := rj
      exact ⟨t, o, t1, t2, n, rfl, ho, hc, hd⟩
  · obtain ⟨n, hn⟩ := hn
    have hm : ∀ u ∈ out, ∃ p ∈ ks, u = Value.ref p.1 := fun u hu => by
      have := h2.perm.mem_iff.mp hu
      rw [ei] at this
      obtain ⟨p, hp, rfl⟩ := List.mem_map.mp this
      exact ⟨p, hp, rfl⟩
    have back : ∀ us : List Value, (∀ u ∈ us, ∃ p ∈ ks, u = Value.ref p.1) → ∃ L : List (Addr × List Int), us = L.map (fun p => Value.ref p.1) ∧ L = us.map (fun u => (match u with | .ref a => a | _ => 0, TS.intsOf s.heap u)) := by
      intro us
      induction us with
      | nil => exact fun _ => ⟨[], rfl, rfl⟩
      | cons u us ih =>
        intro h
        obtain ⟨p, hp, rfl⟩ := h u (by simp)
        obtain ⟨L, e1, e2⟩ := ih fun x hx => h x (List.mem_cons_of_mem _ hx)
        exact ⟨(p.1, TS.intsOf s.heap (.ref p.1)) :: L, by rw [List.map_cons, ← e1], by rw [List.map_cons, ← e2]⟩
    obtain ⟨L, e1, e2⟩ := back out hm
    have pm : L.Perm ks := by
      have e3 : ks = its.map (fun u => (match u with | .ref a => a | _ => 0, TS.intsOf s.heap u)) := by
        rw [ei, List.map_map]
        refine (List.map_id ks).symm.trans (List.map_congr_left fun p hp => ?_)
        show p = (p.1, TS.intsOf s.heap (.ref p.1))
        rw [at_ p hp]
      rw [e2, e3]
      exact h2.perm.map _
    have hv : Vals (L.map fun p => V.ref p.1) out := by
      rw [e1]
      exact vals_of_refs L
    refine ⟨.ref d, upd H d (.lst (L.map fun p => V.ref p.1)), I.laid (t' := s.toks) kp hd ⟨?_, out, n, hv, hn⟩, rfl, q L d pm ?_ (I.hok.fresh hd)⟩
    · rw [List.length_map, pm.length_eq]
      have := hz
      rw [List.length_map] at this
      exact this
    · have h3 : (L.map fun p => Value.ref p.1).Pairwise (fun x y => SrtO.lexB (prOf (TS.intsOf s.heap y)) (prOf (TS.intsOf s.heap x)) = false) := by
        rw [← e1]
        exact h1
      refine List.Pairwise.imp_of_mem (fun {x y} hx hy h => ?_) (List.pairwise_map.mp h3)
      have hx' := pm.mem_iff.mp hx
      have hy' := pm.mem_iff.mp hy
      rw [at_ x hx', at_ y hy', lex_pr (hk y hy').1 (hk x hx').1] at h
      exact h
def rSortedA (K : PySem.W.Frag) : List V → Hp → VK → Prop := fun vs H Q => rSortedI K vs H Q ∨ rSortedQ K vs H Q
theorem qSortedA {X : Cx} (K : PySem.W.Frag) (h : X.K = K := by rfl) : CallR X (.builtin "sorted") (rSortedA K) := by
  subst h
  intro pins s σ H vs us Q I r h
  rcases h with h | h
  · exact cr_sortedI pins s σ H vs us Q I r h
  · exact cr_sortedQ pins s σ H vs us Q I r h
inductive SortA : List Res → (Res → Prop) → Prop
  | i {rs : List Res} {k : Res → Prop} : SortP rs k → SortA rs k
  | q {x : Res} {cs : List (List Int)} {k : Res → Prop} : x.items = some (cs.map tupD) → (∀ c ∈ cs, c.length = 2) → (∀ ms : List (List Int), ms.Perm cs → ms.Pairwise (fun x y => HT.lexLt y x = false) → k (.fresh (ms.map tupD))) → SortA [x] k
theorem cbSortedA : CbOk K (rSortedA K) SortA := by
  intro B H H1 vs rs k Q e0 e1 o p q
  cases p with
  | i p => exact .inl (cbSorted B H H1 vs rs k Q e0 e1 o p q)
  | q hx h2 g =>
    cases o with
    | cons o1 o2 =>
      cases o2
      obtain ⟨a, xs, rfl, h1, im⟩ := o1.list (e0.trans e1) hx
      obtain ⟨ks, e3, e4, e5⟩ := im_tups xs _ im
      rw [e3] at h1
      refine .inr ⟨a, ks, rfl, h1, fun p hp => ⟨h2 _ (by rw [← e4]; exact List.mem_map_of_mem hp), (e5 p hp).1⟩, fun L l pm hw hl => ?_⟩
      exact q _ _ _ (same_new hl) (rFreshN e1 hl (ds := (L.map (·.2)).map tupD) (tups_im L fun p hp => e5 p (pm.mem_iff.mp hp))) (g _ (by rw [← e4]; exact pm.map _) (List.pairwise_map.mpr hw))
end

/-! ### a star in a display -/
section
variable {K : PySem.W.Frag} {δ : List Slot} {te : TE}
theorem qStar {X : Cx} {e : Expr} {es : List Expr} {te : TE} {t : TA} {p : Pos} (K : PySem.W.Frag) (he : PE X e te) (hr : PA X es t) (h : X.K = K := by rfl) (hs : starEach (.Starred e p :: es) X.env = (true, eval e X.env) :: starEach es X.env := by rfl) :
    PA X (.Starred e p :: es) (StX.tStar K te t) := by subst h; exact StX.pa_star he hr hs
theorem args_app {B H H' : Hp} {vs ws : List V} {ds : List PyData} {rs : List Res} (h : ImAll K H' vs ds) (g : ArgsOk K B H H' ws rs) : ArgsOk K B H H' (vs ++ ws) (ds.map Res.dat ++ rs) := by
  induction ds generalizing vs with
  | nil => cases h; exact g
  | cons d ds ih =>
    cases h with
    | cons h1 h2 => exact .cons h1 (ih h2)
theorem ea_star {tr : TA} {k : List Res → Prop} (g : EvC K te δ fun x => ∃ ds, (x.items = some ds ∨ x = .dat (.tuple ds)) ∧ EvA K tr δ fun xs => k (ds.map Res.dat ++ xs)) : EvA K (StX.tStar K te tr) δ k := by
  intro B H σ R Q q
  refine g B H σ R _ fun x H1 rx e1 o1 ⟨ds, hd, g1⟩ => ?_
  obtain ⟨p, vs, rfl, hq, im⟩ : ∃ p vs, x = V.ref p ∧ (SqT K H1 p vs ∨ SqL K H1 p vs) ∧ ImAll K H1 vs ds := by
    rcases hd with hd | rfl
    · obtain ⟨p, vs, e, a, b⟩ := o1.list (R.same.trans e1) hd
      exact ⟨p, vs, e, .inr a, b⟩
    · cases o1 with
      | tup a b => exact ⟨_, _, rfl, .inl a, b⟩
  refine ⟨p, vs, rfl, hq, g1 B H1 σ (R.grow e1) _ fun ws H2 rs e2 o2 kx => ?_⟩
  exact q _ _ _ (e1.trans e2) (args_app (im.to (per_same e2)) (o2.from_ e1)) kx
theorem dats_app (ds : List PyData) : dats (ds.map Res.dat ++ []) = some ds := by
  induction ds with
  | nil => rfl
  | cons d ds ih =>
    show (dats (ds.map Res.dat ++ [])).map (d :: ·) = _
    rw [ih]
    rfl

/-! ### list(range(n)) -/
theorem qListRg {X : Cx} {e : Expr} {tr : L2.St → Hp → (Int → Int → Hp → Prop) → Prop} {p pos : Pos} (hm : X.mg "list" = none) (he : PRg X e tr) (hc : X.calm = true := by rfl) (hg : Gl X "list" := by rfl) (na : starEach [e] X.env = (false, eval e X.env) :: starEach [] X.env := by rfl) :
    PE X (.Call (.Name "list" p) [e] [] pos) (tLstRg tr) := pe_listRg hc hg hm he na
theorem qRg1 {X : Cx} {a : Expr} {ta : TE} {p pos : Pos} (hm : X.mg "range" = none) (ha : PE X a ta) (hg : Gl X "range" := by rfl) (na : starEach [a] X.env = (false, eval a X.env) :: starEach [] X.env := by rfl) : PRg X (.Call (.Name "range" p) [a] [] pos) (tRg1 ta) := prg_1 hg hm ha na
theorem rgV_ints (n : Int) : ∃ vs : List V, rgV 0 n = vs ∧ ∀ (H : Hp), ImAll K H vs ((List.range n.toNat).map fun i : Nat => .int (i : Nat)) := by
  refine ⟨_, rfl, fun H => ?_⟩
  have e : rgV 0 n = ((List.range n.toNat).map fun i : Nat => ((i : Nat) : Int)).map V.int := by
    unfold rgV
    rw [Int.sub_zero, List.map_map]
    refine List.map_congr_left fun i _ => ?_
    show V.int (0 + ((i : Nat) : Int)) = V.int ((i : Nat) : Int)
    rw [Int.zero_add]
  have e2 : ((List.range n.toNat).map fun i : Nat => PyData.int (i : Nat)) = ((List.range n.toNat).map fun i : Nat => ((i : Nat) : Int)).map PyData.int := by
    rw [List.map_map]
    rfl
  rw [e, e2]
  exact ImAll.ints _
theorem ec_listRg {k : Res → Prop} (h : EvC K te δ fun x => ∃ n : Int, x = .dat (.int n) ∧ 0 ≤ n ∧ n ≤ 1000000 ∧ k (.fresh ((List.range n.toNat).map fun i : Nat => .int (i : Nat)))) : EvC K (tLstRg (tRg1 te)) δ k := by
  intro B H σ R Q q
  refine h B H σ R _ fun v H1 x e o ⟨n, hx, h0, h1, kx⟩ => ?_
  subst hx
  cases o
  refine ⟨n, rfl, ⟨by omega, by omega, by omega, by omega, by omega⟩, fun l hl => ?_⟩
  obtain ⟨vs, e2, im⟩ := rgV_ints (K := K) n
  rw [e2]
  exact q _ _ _ (e.trans (same_new hl)) (rFreshN e hl (im H1)) kx
end
end Dl

/-! own layer: min of tuples of ints; t.index of a tuple just made -/
namespace Dl
variable [LamT] [XR]
open PySem PySem.Spec L2 PyProof.Rows
/-! ### the order of lists of ints -/
theorem lex_irr : ∀ a : List Int, HT.lexLt a a = false
  | [] => rfl
  | x :: r => by rw [HT.lexLt_cons, if_pos rfl]; exact lex_irr r
theorem lex_tr : ∀ {a b c : List Int}, HT.lexLt a b = true → HT.lexLt b c = true → HT.lexLt a c = true
  | [], [], _, h, _ => Bool.noConfusion h
  | [], _ :: _, [], _, h => Bool.noConfusion h
  | [], _ :: _, _ :: _, _, _ => rfl
  | _ :: _, [], _, h, _ => Bool.noConfusion h
  | _ :: _, _ :: _, [], _, h => Bool.noConfusion h
  | x :: a, y :: b, z :: c, h1, h2 => by
    rw [HT.lexLt_cons] at h1 h2 ⊢
    by_cases e1 : x = y
    · rw [if_pos e1] at h1
      by_cases e2 : y = z
      · rw [if_pos e2] at h2
        rw [if_pos (e1.trans e2)]
        exact lex_tr h1 h2
      · rw [if_neg e2] at h2
        rw [if_neg (by omega)]
        have := of_decide_eq_true h2
        exact decide_eq_true (by omega)
    · rw [if_neg e1] at h1
      have q1 := of_decide_eq_true h1
      by_cases e2 : y = z
      · rw [if_neg (by omega)]
        exact decide_eq_true (by omega)
      · rw [if_neg e2] at h2
        have q2 := of_decide_eq_true h2
        rw [if_neg (by omega)]
        exact decide_eq_true (by omega)
def btL (f : Nat → List Int) (i j : Nat) : Bool := HT.lexLt (f i) (f j)
theorem best_lex (f : Nat → List Int) : ∀ k, argBest (btL f) k ≤ k ∧ ∀ j, j ≤ k → HT.lexLt (f j) (f (argBest (btL f) k)) = false
  | 0 => ⟨Nat.le_refl _, fun j hj => by
    obtain rfl : j = 0 := by omega
    exact lex_irr _⟩
  | k + 1 => by
    obtain ⟨h1, h2⟩ := best_lex f k
    unfold argBest
    by_cases hb : btL f (k + 1) (argBest (btL f) k) = true
    · rw [if_pos hb]
      refine ⟨Nat.le_refl _, fun j hj => ?_⟩
      by_cases e : j = k + 1
      · rw [e]
        exact lex_irr _
      · cases hz : HT.lexLt (f j) (f (k + 1)) with
        | false => rfl
        | true => exact absurd (lex_tr hz hb) (by rw [h2 j (by omega)]; exact Bool.false_ne_true)
    · rw [if_neg hb]
      refine ⟨by omega, fun j hj => ?_⟩
      by_cases e : j = k + 1
      · rw [e]
        exact Bool.eq_false_iff.mpr hb
      · exact h2 j (by omega)
/-! ### the walk of min, the items on a heap -/
section
variable {prog : Program} {w : World} {A : Around} {R : Result → Shared → Prop} {E : Value → Shared → Prop} {I S : Addr} {fp wr : List Addr} {n : Nat} {P : Nat → Value → Prop} {St : Nat → Heap → Prop} {g : Heap} {bt : Nat → Nat → Bool}
def Old (wr : List Addr) (g h : Heap) : Prop := ∀ b o, b ∉ wr → g.get? b = some o → h.get? b = some o
def MinAt (prog : Program) (w : World) (A : Around) (wr : List Addr) (g : Heap) (P : Nat → Value → Prop) (bt : Nat → Nat → Bool) : Prop :=
  ∀ i j u v (s : Shared) (Q E : Value → Shared → Prop), Old wr g s.heap → P i u → P j v → Q (.bool (bt i j)) s → wpAny (model prog w) A (richCompare .Lt u v) Q E s
theorem min_ne {b : Addr} {o : Obj} (h : ∀ x, g.get? S ≠ some x) (e : g.get? b = some o) : b ≠ S := fun z => h o (z ▸ e)
theorem minT_loop (W : Walks prog w A.in1 I fp wr n P St) (cmp : MinAt prog w A.in1 wr g P bt) (hSf : S ∉ fp) (hSg : ∀ x, g.get? S ≠ some x) :
    ∀ (m j : Nat) (s : Shared) (best : Value) (c : Nat), n - (j + 1) = m → j + 1 ≤ n → St (j + 1) s.heap → Old wr g s.heap → P (argBest bt j) best → s.heap.get? S = some (lstObj #[best, best] c) →
      (∀ v h' tk, P (argBest bt (n - 1)) v → Old wr g h' → R (.ok (.ret v)) { s with heap := h', toks := tk }) → codeAny (model prog w) A (.builtin "min.loop" ⟨[.ref I, .none, .ref S], []⟩) R s := by
  have nwr : S ∉ wr := fun z => hSf (W.sub _ z)
  have nm : (toString "min" ++ toString ".loop" : String) = "min.loop" := by decide
  have put : ∀ {h : Heap} {f : Obj → Obj}, Old wr g h → Old wr g (h.update S f) := fun o b x hb e => (Heap.get?_update_other _ _ (Ne.symm (min_ne hSg e))).trans (o b x hb e)
  intro m
  induction m with
  | zero =>
    intro j s best c e1 e2 st old pb hS done
    obtain rfl : j + 1 = n := by omega
    refine codeAny_builtin F.entry_min_loop ?_
    rw [Around.under_plainId F.plain_min_loop _]
    refine wpAny_bind (m := seqItems? (.ref S)) (wpAny_seqItems hS rfl ?_)
    refine wpAny_bind (m := tryCatch (pyNext (.ref I)) _) (wpAny_tryCatch (W.done s _ _ st fun h' tk kp => ?_))
    refine wpAny_bind (m := updateSeq S (fun _ => #[])) (wpAny_updateSeq (kp S _ nwr hS) rfl (wpAny_bind (wpAny_letGo (wpAny_pure (done best _ tk pb (put fun b o hb e => kp b o hb (old b o hb e)))))))
  | succ m ih =>
    intro j s best c e1 e2 st old pb hS done
    have lt : j + 1 < n := by omega
    refine codeAny_builtin F.entry_min_loop ?_
    rw [Around.under_plainId F.plain_min_loop _]
    refine wpAny_bind (m := seqItems? (.ref S)) (wpAny_seqItems hS rfl ?_)
    refine wpAny_bind (m := tryCatch (pyNext (.ref I)) _) (wpAny_tryCatch (W.item (j + 1) s _ _ lt st fun v h' tk pv st' kp => ?_))
    have hS' := kp S _ nwr hS
    have old' : Old wr g h' := fun b o hb e => kp b o hb (old b o hb e)
    refine wpAny_bind (m := tryCatch (holding [v, v] (richCompare .Lt v best >>= _)) _) (wpAny_tryCatch (wpAny_holding (wpAny_bind (cmp (j + 1) (argBest bt j) v best _ _ _ old' pv pb (wpAny_bind (wpAny_holding (wpAny_truthy_bool (wpAny_bind (wpAny_letGo (wpAny_pure ?_))))))))))
    cases hb : bt (j + 1) (argBest bt j) with
    | true =>
      simp only [if_true]
      refine wpAny_bind (wpAny_updateSeq hS' rfl (wpAny_bind (wpAny_letGo ?_)))
      rw [nm]
      exact wpAny_pure ⟨plainId_quiet F.plain_min_loop _, ih (j + 1) _ v _ (by omega) lt (W.frame _ _ _ st' fun b hbf o e => (Heap.get?_update_other _ _ (fun z : S = b => hSf (z ▸ hbf))).trans e) (put old') (by simp only [argBest, hb, if_true]; exact pv)
        (Heap.get?_update_self _ hS' rfl) fun v2 h2 tk2 p2 o2 => done v2 h2 tk2 p2 o2⟩
    | false =>
      simp only [Bool.false_eq_true, if_false]
      refine wpAny_bind (wpAny_letGo ?_)
      rw [nm]
      exact wpAny_pure ⟨plainId_quiet F.plain_min_loop _, ih (j + 1) _ best c (by omega) lt st' old' (by simp only [argBest, hb, Bool.false_eq_true, if_false]; exact pb) hS' fun v2 h2 tk2 p2 o2 => done v2 h2 tk2 p2 o2⟩
theorem minT_first (W : Walks prog w A.in1 I fp wr n P St) (cmp : MinAt prog w A.in1 wr g P bt) (hSf : S ∉ fp) (hSg : ∀ x, g.get? S ≠ some x) (hn : 0 < n) {s : Shared} {c : Nat} (st : St 0 s.heap) (old : Old wr g s.heap) (hS : s.heap.get? S = some (lstObj #[] c))
    (done : ∀ v h' tk, P (argBest bt (n - 1)) v → Old wr g h' → R (.ok (.ret v)) { s with heap := h', toks := tk }) : codeAny (model prog w) A (.builtin "min.loop" ⟨[.ref I, .none, .ref S], []⟩) R s := by
  have nwr : S ∉ wr := fun z => hSf (W.sub _ z)
  have nm : (toString "min" ++ toString ".loop" : String) = "min.loop" := by decide
  refine codeAny_builtin F.entry_min_loop ?_
  rw [Around.under_plainId F.plain_min_loop _]
  refine wpAny_bind (m := seqItems? (.ref S)) (wpAny_seqItems hS rfl ?_)
  refine wpAny_bind (m := tryCatch (pyNext (.ref I)) _) (wpAny_tryCatch (W.item 0 s _ _ hn st fun v h' tk pv st' kp => ?_))
  have hS' := kp S _ nwr hS
  refine wpAny_bind (m := updateSeq S (fun _ => #[v, v])) (wpAny_updateSeq hS' rfl ?_)
  rw [nm]
  exact wpAny_pure ⟨plainId_quiet F.plain_min_loop _, minT_loop W cmp hSf hSg _ 0 _ v _ rfl hn (W.frame _ _ _ st' fun b hbf o e => (Heap.get?_update_other _ _ (fun z : S = b => hSf (z ▸ hbf))).trans e)
    (fun b o hb e => (Heap.get?_update_other _ _ (Ne.symm (min_ne hSg e))).trans (kp b o hb (old b o hb e))) pv (Heap.get?_update_self _ hS' rfl) fun v2 h2 tk2 p2 o2 => done v2 h2 tk2 p2 o2⟩
theorem minT_list {s : Shared} {l : Addr} {its : Array Value} {Q : Value → Shared → Prop} (hh : A.handled = none) (hl : s.heap.IsList l its) (hn : 0 < its.size) (hu : A.in1.units < cLine) (f : Nat → List Int) (hf : ∀ i v, its[i]? = some v → TS.TupInts s.heap v (f i))
    (done : ∀ v h' tk, its[argBest (btL f) (its.size - 1)]? = some v → (∀ b o, s.heap.get? b = some o → h'.get? b = some o) → Q v { s with heap := h', toks := tk }) : wpAny (model prog w) A (call (.builtin "min") [.ref l]) Q E s := by
  have nm : (toString "min" ++ toString ".loop" : String) = "min.loop" := by decide
  have lsz : l < s.heap.objs.size := by obtain ⟨_, e, _⟩ := hl; exact Heap.lt_size e
  refine call_function_tree F.kind_min F.plain_min F.entry_min (F.args_min1 _) ?_
  refine wpAny_bind (m := Builtin.Builtins.bindParams "min" ["key", "default"] 0 ⟨[], []⟩) (wpAny_of_eq (show Builtin.Builtins.bindParams "min" ["key", "default"] 0 ⟨[], []⟩ = pure [none, none] from rfl) ?_)
  refine wpAny_bind (wpAny_pure (wpAny_bind (wpAny_pyIter_list hl (wpAny_bind (wpAny_newObj_type ?_)))))
  rw [nm]
  have e1 : (s.heap.push ({ cls := .type "list_iterator", data := .fields #[.ref l, .int 0 0] } : Obj)).objs.size = s.heap.objs.size + 1 := Heap.size_push ..
  refine wpAny_pure ⟨plainId_quiet F.plain_min_loop _, minT_first (g := s.heap) (Walks.list (A := A.in1) hh s.heap.objs.size l (Nat.ne_of_lt lsz) its) (bt := btL f) (fun i j u v s2 Q2 E2 old pu pv q => ?_) ?_ ?_ hn ⟨⟨({ cls := .type "list_iterator", data := .fields #[.ref l, .int 0 0] } : Obj), ?_, rfl, rfl⟩, ?_⟩ ?_ (Heap.get?_push_size _ rfl) fun v h' tk pv old => ?_⟩
  · have kp : ∀ b o, s.heap.get? b = some o → o.cls = .type "tuple" → s2.heap.get? b = some o := fun b o e _ => old b o (fun z => Nat.ne_of_lt (Heap.lt_size e) (List.mem_singleton.mp z)) e
    obtain ⟨a, xs, rfl, h1, h2⟩ := (hf i u pu).keeps kp
    obtain ⟨b, ys, rfl, h3, h4⟩ := (hf j v pv).keeps kp
    exact HT.lt_tupInts h1 h3 h2 h4 hu q
  · rw [e1]
    intro z
    simp only [List.mem_cons, List.not_mem_nil, or_false] at z
    rcases z with z | z
    · exact Nat.succ_ne_self _ (show s.heap.objs.size + 1 = s.heap.objs.size from z)
    · have z2 : s.heap.objs.size + 1 = l := z
      exact Nat.lt_asymm lsz (z2 ▸ Nat.lt_succ_self s.heap.objs.size)
  · intro x e
    have z : s.heap.objs.size + 1 < s.heap.objs.size := by
      have := Heap.lt_size e
      rw [e1] at this
      exact this
    omega
  · exact Heap.get?_push_of_some _ (Heap.get?_push_size _ rfl)
  · exact (hl.push _).push _
  · exact fun b o _ e => Heap.get?_push_of_some _ (Heap.get?_push_of_some _ e)
  · exact done v h' tk pv fun b o e => old b o (fun z => Nat.ne_of_lt (Heap.lt_size e) (List.mem_singleton.mp z)) e
end
section
variable {K : PySem.W.Frag} {δ : List Slot} {te : TE}
def rMinT (K : PySem.W.Frag) : List V → Hp → VK → Prop := fun vs H Q => ∃ (a : Addr) (ks : List (Addr × List Int)), vs = [V.ref a] ∧ SqL K H a (ks.map fun p => V.ref p.1) ∧ (∀ p ∈ ks, SqT K H p.1 (p.2.map V.int)) ∧ 0 < ks.length ∧ ∀ p ∈ ks, (∀ r ∈ ks, HT.lexLt r.2 p.2 = false) → Q (.ref p.1) H
theorem cr_minT {X : Cx} (hc : X.calm = true) (hu : X.A.units + 64 < cLine) : CallR X (.builtin "min") (rMinT X.K) := by
  intro pins s σ H vs us Q I r h
  obtain ⟨a, ks, rfl, hs, hk, hn, q⟩ := h
  obtain ⟨its, rv, hl, _⟩ := I.list hs
  rw [Vals.ref1 r]
  have ei : its = ks.map fun p => Value.ref p.1 := refs_of_vals rv
  have sz : its.toArray.size = ks.length := by rw [List.size_toArray, ei, List.length_map]
  have at_ : ∀ (i : Nat) (v : Value), its.toArray[i]? = some v → ∃ p, ks[i]? = some p ∧ p ∈ ks ∧ v = .ref p.1 := fun i v e => by
    rw [List.getElem?_toArray, ei, List.getElem?_map] at e
    obtain ⟨p, hp, rfl⟩ := Option.map_eq_some_iff.mp e
    exact ⟨p, hp, List.mem_of_getElem? hp, rfl⟩
  have ff : ∀ (i : Nat) (p : Addr × List Int), ks[i]? = some p → (ks.map (·.2)).getD i [] = p.2 := fun i p e => by rw [List.getD_eq_getElem?_getD, List.getElem?_map, e]; rfl
  refine minT_list (I.ok.hd hc) hl.isList (by rw [sz]; exact hn) (show X.A.units + 1 < cLine by omega) (fun i => (ks.map (·.2)).getD i []) (fun i v e => ?_) fun v h' tk e kp => ?_
  · obtain ⟨p, h1, h2, rfl⟩ := at_ i v e
    show TS.TupInts _ _ ((ks.map (·.2)).getD i [])
    rw [ff i p h1]
    exact tupInts_at I (hk p h2)
  · obtain ⟨p, h1, h2, rfl⟩ := at_ _ v e
    refine ⟨.ref p.1, H, I.kept kp, rfl, q p h2 fun r hr => ?_⟩
    obtain ⟨j, hj⟩ := List.getElem?_of_mem hr
    have := (best_lex (fun i => (ks.map (·.2)).getD i []) (its.toArray.size - 1)).2 j (by
      have := (List.getElem?_eq_some_iff.mp hj).1
      omega)
    have e2 : HT.lexLt ((ks.map (·.2)).getD j []) ((ks.map (·.2)).getD (argBest (btL fun i => (ks.map (·.2)).getD i []) (its.toArray.size - 1)) []) = false := this
    rw [ff j r hj, ff _ p h1] at e2
    exact e2
def rMinA (K : PySem.W.Frag) : List V → Hp → VK → Prop := fun vs H Q => rMin K vs H Q ∨ rMinT K vs H Q
theorem qMinA {X : Cx} (K : PySem.W.Frag) (hu : X.A.units + 64 < cLine) (h : X.K = K := by rfl) (hc : X.calm = true := by rfl) : CallR X (.builtin "min") (rMinA K) := by
  subst h
  intro pins s σ H vs us Q I r h
  rcases h with h | h
  · exact cr_min hc pins s σ H vs us Q I r h
  · exact cr_minT hc hu pins s σ H vs us Q I r h
inductive MinA : List Res → (Res → Prop) → Prop
  | i {rs : List Res} {k : Res → Prop} : MinP rs k → MinA rs k
  | t {x : Res} {cs : List (List Int)} {k : Res → Prop} : x.items = some (cs.map tupD) → 0 < cs.length → (∀ c ∈ cs, (∀ y ∈ cs, HT.lexLt y c = false) → k (.dat (tupD c))) → MinA [x] k
theorem cbMinA : CbOk K (rMinA K) MinA := by
  intro B H H1 vs rs k Q e0 e1 o p q
  cases p with
  | i p => exact .inl (cbMin1 B H H1 vs rs k Q e0 e1 o p q)
  | t hx hn g =>
    cases o with
    | cons o1 o2 =>
      cases o2
      obtain ⟨a, xs, rfl, h1, im⟩ := o1.list (e0.trans e1) hx
      obtain ⟨ks, e3, e4, e5⟩ := im_tups xs _ im
      rw [e3] at h1
      refine .inr ⟨a, ks, rfl, h1, fun p hp => (e5 p hp).1, by rw [← e4, List.length_map] at hn; exact hn, fun p hp hm => ?_⟩
      refine q _ _ _ (Same.refl _) (rTup (e5 p hp).1 (ImAll.ints p.2) (e5 p hp).2) (g _ (by rw [← e4]; exact List.mem_map_of_mem hp) fun y hy => ?_)
      rw [← e4] at hy
      obtain ⟨r, hr, rfl⟩ := List.mem_map.mp hy
      exact hm r hr
/-! ### a tuple just made: it has no dict -/
def bTupleZ (K : PySem.W.Frag) : List V → Hp → VK → Prop := fun xs H Q => ∃ p ys, xs = [.ref p] ∧ SqL K H p ys ∧ ∀ l o, H l = none → o.dict = none → Q (.ref l) (upd H l (.frz o (.tup ys)))
theorem qTupleZ {X : Cx} (K : PySem.W.Frag) (h : X.K = K := by rfl) : CallR X (.type "tuple") (bTupleZ K) := by
  subst h
  intro pins s σ H xs us Q I r h
  obtain ⟨p, ys, rfl, hq, q⟩ := h
  obtain ⟨u, rfl, rx⟩ := vals1 r
  cases rx
  obtain ⟨its, r', pl, hz⟩ := I.list hq
  have hlen := r'.length
  refine call_tuple_list pl.isList (fun h' kp => ?_) (by simp only [List.size_toArray] <;> omega)
  have I1 : Inv X pins σ H { s with heap := h' } := I.kept (t' := s.toks) kp
  refine ⟨.ref h'.objs.size, _, I1.laid (t' := s.toks) (o := .frz _ (.tup ys)) (fun b o e => Heap.get?_push_of_some _ e) (Nat.le_refl _) ⟨Heap.get?_push_size _ rfl, hz, its, r', IsTup.new _ _⟩, rfl, q _ _ (I1.hok.fresh (Nat.le_refl _)) rfl⟩
omit [XR] in
/-- a def that gives a tuple it has just made -/
def spOfT (K : PySem.W.Frag) (sp : List Res → (List PyData → Prop) → Prop) : Sp := fun vs H Q _ => ∃ rs k, (ArgsP K H vs rs ∧ LamX.Tabs LamT.T H ∧ SysK H) ∧ sp rs k ∧ ∀ p us o ds H', Same H H' → H' p = some (.frz o (.tup us)) → o.dict = none → ImAll K H' us ds → k ds → Q (.ref p) H'
def tBMT (K : PySem.W.Frag) (r : V → List V → Hp → VK → Prop) (to : TE) (t : TA) : TE := fun σ H Q => to σ H fun x H1 => (∃ p xs o, x = V.ref p ∧ H1 p = some (.frz o (.tup xs)) ∧ o.dict = none) ∧ t σ H1 fun xs H2 => r x xs H2 Q
theorem pe_bmT {X : Cx} {o e : Expr} {es : List Expr} {to : TE} {t : TA} {name : Str} {apos cpos : Pos} {id : String} {r : V → List V → Hp → VK → Prop} (K : PySem.W.Frag) (pa : PlainAttrs "tuple") (slot : PySem.Slot "tuple" name id) (hty : typeOf (.builtin id) = pure (.type "method_descriptor")) (hm : MtR X id r) (ho : PE X o to) (ha : PA X (e :: es) t)
    (hK : X.K = K := by rfl) (hbase : attributeBase o name X.env (eval o X.env) = eval o X.env := by rfl)
    (hfew : ((backTo cpos (starEach (e :: es) X.env)).all (fun x => !x.1) && (backToKw cpos (keywordEach [] X.env)).all (fun x => x.1.isSome) && decide ((e :: es).length + ([] : List Keyword).length + (if ([] : List Keyword).isEmpty then 0 else 1) < 30)) = true := by rfl)
    (hline : (apos.endLine == cpos.line) = true := by rfl) (hs : starEach (e :: es) X.env = (false, eval e X.env) :: starEach es X.env := by rfl) (hplain : (backTo cpos (starEach es X.env)).any (·.1) = false := by rfl) : PE X (.Call (.Attribute o name apos) (e :: es) [] cpos) (tBMT K r to t) := by
  subst hK
  refine ⟨fun pins s σ H Q I h => ?_⟩
  refine wpAny_Call_method_late hbase hfew hline rfl (thn (ho.run pins s σ H _ I h) fun v s1 ⟨x, H1, I1, r1, ty, q1⟩ => ?_)
  obtain ⟨p, xs, ob, rfl, hp, hd⟩ := ty
  cases r1
  obtain ⟨g1, _, its, _, o2, g2, hc, _⟩ := I1.hok p _ hp
  refine ⟨"tuple", id, pa, slot, hty, ⟨o2, g2, hc⟩, fun a e => ?_, ?_⟩
  · cases e
    exact ⟨ob, g1, hd⟩
  have hA := ha.run cpos pins s1 σ H1 _ I1 q1
  rw [hs] at hA ⊢
  refine Calls.callWith_builtin (by show (false || (backTo cpos (starEach es X.env)).any (·.1)) = false; rw [hplain] <;> rfl) (Calls.evalArgs_plain ?_)
  exact thn hA fun us s2 ⟨vs, H2, I2, r2, q2⟩ => hm pins s2 σ H2 (V.ref p) vs (Value.ref p) us Q I2 (show RelV (V.ref p) (Value.ref p) from rfl) r2 q2
/-- t.index(x): the first place of an equal one -/
def rIdxT (K : PySem.W.Frag) : V → List V → Hp → VK → Prop := fun x xs H Q => ∃ (a : Addr) (y : V) (us : List V) (d : PyData) (ds : List PyData) (j : Nat) (z : PyData), x = V.ref a ∧ xs = [y] ∧ SqT K H a us ∧ DpAll K H us ds ∧ Dp K H y d ∧
  SeqAt.shaped (.tuple ds) = true ∧ SeqAt.shaped d = true ∧ ds[j]? = some z ∧ PyData.eqv z d = true ∧ (∀ (m : Nat) (z' : PyData), m < j → ds[m]? = some z' → PyData.eqv z' d = false) ∧ Q (.int (j : Nat)) H
theorem mt_idxT {X : Cx} (K : PySem.W.Frag) (hu : X.A.units + 65 < cLine) (hK : X.K = K := by rfl) : MtR X "tuple.index" (rIdxT K) := by
  subst hK
  intro pins s σ H x xs v us Q I rx rxs h
  obtain ⟨a, y, ws, d, ds, j, z, rfl, rfl, hq, hall, hy, sl, sd, hz, hzj, hno, q⟩ := h
  cases rx
  obtain ⟨uy, rfl, ry⟩ := vals1 rxs
  obtain ⟨bs, r1⟩ := Dp.reads I d y uy hy ry
  have lay : PyData.canLayAll0 ds = true := SeqAt.canLay_of_shaped sl
  have room : X.A.units + 1 + min (PyData.depthAll ds) d.depth < cLine := room_in_shaped sd hu
  obtain ⟨its, rv, ⟨⟨cls, dd, data, sls⟩, ho, hc, n, hdt⟩, hlen⟩ := I.tuple hq
  simp only at hc hdt
  subst hc hdt
  obtain ⟨as, h4⟩ := Dp.readsAll I ds _ its hall rv
  have hn : its.length = ds.length := SeqAt.ReadsAll.length ds its as h4
  have hmap : its.map (SeqAt.readOf s.heap) = ds := SeqAt.readsAll_map ds its as lay h4
  obtain ⟨hjd, _⟩ := List.getElem?_eq_some_iff.mp hz
  have hj : j < its.toArray.size := by
    rw [List.size_toArray]
    omega
  have at_ : ∀ (m : Nat) (hm : m < its.toArray.size), ds[m]? = some (SeqAt.readOf s.heap its.toArray[m]) := fun m hm => by
    have hml : m < its.length := by simpa using hm
    rw [← hmap, List.getElem?_map, List.getElem?_eq_getElem hml]
    simp
  refine call_meets PySem.F.slot_tuple_index ⟨_, ho, rfl⟩ PySem.F.entry_tuple_index (PySem.F.args_tuple_index_2 _ _) (TI.tuple_indexAt a its.toArray n dd sls uy (fun u => PyData.eqv (SeqAt.readOf s.heap u) d) j hj ?_ fun m hm hmj => hno m _ hmj (at_ m hm))
    ⟨ho, SeqAt.items_eqAt (vs := its.toArray) (show ReadsAll s.heap its.toArray.toList ds as from h4) r1 lay (SeqAt.canLay_of_shaped sd) room, ⟨.int (j : Nat), H, I.tok _, ⟨_, rfl⟩, q⟩⟩
  have := at_ j hj
  rw [hz] at this
  rw [← Option.some.inj this]
  exact hzj
end
end Dl

/-! own layer: ts = f(..); return ts.index(x) if x in ts else None -/
namespace Dl
variable [LamT] [XR]
open PySem PySem.Spec L2 PyProof.Rows
section
variable {K : PySem.W.Frag} {δ : List Slot} {nx : List Slot → Prop} {rt : Res → Prop} {bk ct : List Slot → Prop}
theorem sd_tupIdx {i j : Nat} {E : XK} {sp : List Res → (List PyData → Prop) → Prop} {ta : TA} {d : PyData} (hj : δ[j]? = some (.dat d)) (hij : i ≠ j) (hi : i < δ.length) (sd : SeqAt.shaped d = true) (hst : LamT.st = true)
    (h : EvA K ta δ fun rs => sp (rs.map argR) fun ds => SeqAt.shaped (.tuple ds) = true ∧ (∀ (n : Nat) z, ds[n]? = some z → PyData.eqv z d = true → (∀ (m : Nat) z', m < n → ds[m]? = some z' → PyData.eqv z' d = false) → rt (.dat (.int (n : Nat)))) ∧ ((∀ z ∈ ds, PyData.eqv z d = false) → rt (.dat .none))) :
    SD K (tSeq (tAsg (tCall (spOfT K sp) [] E ta) (gName i)) (tRet (tIf (tTest (tOp (rInA K) (tVar j) (tVar i))) (tBMT K (rIdxT K) (tVar i) (tCons (tVar j) tNil)) (tC .non)))) ⟨nx, rt, bk, ct⟩ δ := by
  intro B H σ R Ee C
  refine h B H σ R _ fun vs H1 rs e o hs => ?_
  rw [List.append_nil]
  refine ⟨_, _, ⟨args_to (R.same.trans e) o fun _ _ => trivial, e.tabs R.tabs, R.x.2.same (R.same.trans e)⟩, hs, fun p us ob ds H2 e2 hp hd im ⟨sh, gf, gn⟩ => ?_⟩
  have R2 : Rel K B H2 (σ.set i (some (.ref p))) (δ.set i (.dat (.tuple ds))) := R.set (x := .dat (.tuple ds)) (H0 := H) (e.trans e2) (rTup (.inl (.inr ⟨ob, hp⟩)) im (.inl (.inl hst))) R.same fun _ _ => Same.refl H
  have sti : (δ.set i (.dat (.tuple ds)))[i]? = some (.dat (.tuple ds)) := by rw [List.getElem?_set_self hi]
  have stj : (δ.set i (.dat (.tuple ds)))[j]? = some (.dat d) := by rw [List.getElem?_set_ne hij]; exact hj
  have hσi : (σ.set i (some (V.ref p)))[i]? = some (some (.ref p)) := by rw [List.getElem?_set_self (by rw [R.len]; exact hi)]
  have t : EvT K (tTest (tOp (rInA K) (tVar j) (tVar i))) (δ.set i (.dat (.tuple ds))) fun b => b = ds.any fun z => PyData.eqv z d :=
    et_test (ec_op opInA (ec_var stj rfl (ec_var sti rfl (.t rfl sd sh ⟨_, rfl, rfl⟩))))
  refine t B H2 _ R2 _ fun b H3 e3 hb => ?_
  have R3 := R2.grow e3
  obtain ⟨y, hy1, hy2⟩ := R3.at_ j _ stj
  have hσj : (σ.set i (some (V.ref p)))[j]? = some (some y) := by
    cases hz : (σ.set i (some (V.ref p)))[j]? with
    | none => rw [hz] at hy1; cases hy1
    | some o => rw [hz] at hy1; exact congrArg some hy1
  cases b with
  | true =>
    rw [if_pos rfl]
    have ex : ∃ n z, ds[n]? = some z ∧ PyData.eqv z d = true ∧ ∀ (m : Nat) z', m < n → ds[m]? = some z' → PyData.eqv z' d = false := by
      have : ∀ ds : List PyData, (ds.any fun z => PyData.eqv z d) = true → ∃ n z, ds[n]? = some z ∧ PyData.eqv z d = true ∧ ∀ (m : Nat) z', m < n → ds[m]? = some z' → PyData.eqv z' d = false := by
        intro ds
        induction ds with
        | nil => intro h; cases h
        | cons x r ih =>
          intro h
          cases hx : PyData.eqv x d with
          | true => exact ⟨0, x, rfl, hx, fun m z' hm => absurd hm (Nat.not_lt_zero m)⟩
          | false =>
            rw [List.any_cons, hx, Bool.false_or] at h
            obtain ⟨n, z, h1, h2, h3⟩ := ih h
            refine ⟨n + 1, z, h1, h2, fun m z' hm hz => ?_⟩
            cases m with
            | zero => cases hz; exact hx
            | succ m => exact h3 m z' (by omega) hz
      exact this ds hb.symm
    obtain ⟨n, z, h1, h2, h3⟩ := ex
    refine ⟨_, hσi, ⟨p, us, ob, rfl, e3.at_ _ _ hp, hd⟩, y, hσj, ?_⟩
    exact ⟨p, y, us, d, ds, n, z, rfl, rfl, .inl (.inr ⟨ob, e3.at_ _ _ hp⟩), (im.to (per_same e3)).toDp (by simpa only [PyData.hasDict] using nd_of_shaped sh), hy2.toDp (nd_of_shaped sd), sh, sd, h1, h2, h3, C.rt _ H3 _ R3.same rInt (gf n z h1 h2 h3)⟩
  | false =>
    rw [if_neg Bool.false_ne_true]
    refine C.rt _ H3 _ R3.same rNon (gn fun z hz => ?_)
    have := List.any_eq_false.mp hb.symm z hz
    exact Bool.eq_false_iff.mpr this
/-- a def whose body is `return tuple(e)` -/
theorem sd_retTupZ {te : TE} {k : List PyData → Prop} (h : EvC K te δ fun x => ∃ ds, x.items = some ds ∧ k ds) (B H : Hp) (σ : L2.St) (R : Rel K B H σ δ) (E : Ends)
    (q : ∀ (p : Addr) us o ds H', Same B H' → H' p = some (.frz o (.tup us)) → o.dict = none → ImAll K H' us ds → k ds → E.rt (.ref p) H') : tRet (tCB (bTupleZ K) (tCons te tNil)) E σ H := by
  refine h B H σ R _ fun v H1 x e o ⟨ds, hd, hk⟩ => ?_
  obtain ⟨a, vs, rfl, h1, im⟩ := o.list (R.same.trans e) hd
  refine ⟨a, vs, rfl, h1, fun l ob hl hz => ?_⟩
  have sm : Same H1 (upd H1 l (.frz ob (.tup vs))) := same_new hl
  exact q _ _ _ _ _ ((R.same.trans e).trans sm) upd_same hz (im.to (per_same sm)) hk
/-! ### loops by their places -/
theorem forp_at {α : Type} {g : TG} {tb : TS} {δ : List Slot} {nx : List Slot → Prop} {rt : Res → Prop} (n : Nat) (enc : Nat → PyData) (I : Nat → α → Prop) (δI : α → List Slot) (h0 : ∃ a, I 0 a ∧ Wk δ (δI a))
    (turn : ∀ (t : Nat) (a : α), t < n → I t a → GS K g (.dat (enc t)) (δI a) fun δ' => SD K tb ⟨fun δ2 => ∃ a', I (t + 1) a' ∧ Wk δ2 (δI a'), rt, nx, fun δ2 => ∃ a', I (t + 1) a' ∧ Wk δ2 (δI a')⟩ δ')
    (fin : ∀ a, I n a → nx (δI a)) : ForP K ((List.range n).map enc) g tb nx rt δ := by
  refine forp_inv (List.range n) enc (fun pre a => I pre.length a) δI h0 (fun pre x post a hp hI => ?_) fun a hI => fin a (by rw [List.length_range] at hI; exact hI)
  have hlt : pre.length < n := by
    have := congrArg List.length hp
    simp at this
    omega
  have hx : x = pre.length := by
    have : (List.range n)[pre.length]? = some x := by rw [hp]; simp
    rw [List.getElem?_range hlt] at this
    exact (Option.some.inj this).symm
  subst hx
  have e : (pre ++ [pre.length]).length = pre.length + 1 := by simp
  rw [e]
  exact turn _ a hlt hI
theorem forp_rg {α : Type} {g : TG} {tb : TS} {δ : List Slot} {nx : List Slot → Prop} {rt : Res → Prop} (lo : Int) (n : Nat) (I : Nat → α → Prop) (δI : α → List Slot) (h0 : ∃ a, I 0 a ∧ Wk δ (δI a))
    (turn : ∀ (t : Nat) (a : α), t < n → I t a → GS K g (.dat (.int (lo + (t : Nat)))) (δI a) fun δ' => SD K tb ⟨fun δ2 => ∃ a', I (t + 1) a' ∧ Wk δ2 (δI a'), rt, nx, fun δ2 => ∃ a', I (t + 1) a' ∧ Wk δ2 (δI a')⟩ δ')
    (fin : ∀ a, I n a → nx (δI a)) : ForP K (rgD lo n) g tb nx rt δ := forp_at n (fun t => .int (lo + (t : Nat))) I δI h0 turn fin
theorem forp_en {α : Type} {g : TG} {tb : TS} {δ : List Slot} {nx : List Slot → Prop} {rt : Res → Prop} (ds : List PyData) (I : Nat → α → Prop) (δI : α → List Slot) (h0 : ∃ a, I 0 a ∧ Wk δ (δI a))
    (turn : ∀ (t : Nat) (d : PyData) (a : α), ds[t]? = some d → I t a → GS K g (.dat (.tuple [.int (t : Nat), d])) (δI a) fun δ' => SD K tb ⟨fun δ2 => ∃ a', I (t + 1) a' ∧ Wk δ2 (δI a'), rt, nx, fun δ2 => ∃ a', I (t + 1) a' ∧ Wk δ2 (δI a')⟩ δ')
    (fin : ∀ a, I ds.length a → nx (δI a)) : ForP K (enumD ds) g tb nx rt δ := by
  unfold enumD
  refine forp_at ds.length _ I δI h0 (fun t a ht hI => ?_) fin
  have e : ds[t]? = some (ds.getD t .none) := by rw [List.getD_eq_getElem?_getD, List.getElem?_eq_getElem ht]; rfl
  exact turn t _ a e hI
/-- a loop over a list of data -/
theorem forp_ds {α : Type} {g : TG} {tb : TS} {δ : List Slot} {nx : List Slot → Prop} {rt : Res → Prop} (ds : List PyData) (I : Nat → α → Prop) (δI : α → List Slot) (h0 : ∃ a, I 0 a ∧ Wk δ (δI a))
    (turn : ∀ (t : Nat) (d : PyData) (a : α), ds[t]? = some d → I t a → GS K g (.dat d) (δI a) fun δ' => SD K tb ⟨fun δ2 => ∃ a', I (t + 1) a' ∧ Wk δ2 (δI a'), rt, nx, fun δ2 => ∃ a', I (t + 1) a' ∧ Wk δ2 (δI a')⟩ δ')
    (fin : ∀ a, I ds.length a → nx (δI a)) : ForP K ds g tb nx rt δ := by
  have e : ds = (List.range ds.length).map fun t => ds.getD t .none := by
    refine List.ext_getElem? fun i => ?_
    rw [List.getElem?_map]
    by_cases h : i < ds.length
    · rw [List.getElem?_range h, List.getElem?_eq_getElem h]
      show _ = some (ds.getD i .none)
      rw [List.getD_eq_getElem?_getD, List.getElem?_eq_getElem h]
      rfl
    · rw [List.getElem?_eq_none (by omega), List.getElem?_eq_none (by rw [List.length_range]; omega)]
      rfl
  rw [e]
  refine forp_at ds.length _ I δI h0 (fun t a ht hI => ?_) fin
  have e2 : ds[t]? = some (ds.getD t .none) := by rw [List.getD_eq_getElem?_getD, List.getElem?_eq_getElem ht]; rfl
  exact turn t _ a e2 hI
end
end Dl
namespace Dl
variable [LamT]
open PySem PySem.Spec L2 PyProof.Rows
section
variable {K : PySem.W.Frag}
theorem fn_okT {P : Program} {w : World} {mg : Str → Option Value} {base : Heap} {x qual : Str} {st : Stmt} {f : Addr} {fd : FuncData} {N ps : List Str} {n : Nat} {sp : List Res → (List PyData → Prop) → Prop} (F : Fun K x qual st f fd) (S : FnScope N ps (defScope st))
    (hlen : ∀ rs k, sp rs k → rs.length = ps.length)
    (body : ∀ (cdv : Value) (A : Around) (outer : List Env) (s : Shared) (H : Hp) (E : XK) (rs : List Res) (k : List PyData → Prop), A.guards = some [] → Room n (A.deeper (PyProof.Rows.envOfC qual (defScope st) s.heap.objs.size f cdv)) → sp rs k →
      ∃ te, PSs (cxOf CX0 P w K mg base N qual (defScope st) f cdv A outer s H E).nox (defBody st) (tRet (tCB (bTupleZ K) (tCons te tNil))) ∧ EvC K te (entry N rs) fun x => ∃ ds, x.items = some ds ∧ k ds) : FnG P w K mg base CX0 (n + 1) f fd ps (spOfT K sp) := by
  refine Fun.okG F S (fun vs H Q E h => ?_) fun cdv A outer s H vs Q E hg hr h => ?_
  · obtain ⟨rs, k, h1, h2, _⟩ := h
    rw [h1.1.length]
    exact hlen rs k h2
  · obtain ⟨rs, k, h1, h2, h3⟩ := h
    obtain ⟨te, pt, ev⟩ := body cdv A outer s H E rs k hg hr h2
    exact ⟨_, pt.nox, sd_retTupZ ev H H _ (rel_start h1 trivial) _ fun p us o ds H' sm hp hd im hk => h3 p us o ds H' sm hp hd im hk⟩
end
end Dl

/-! own layer: comprehensions over mapped lists -/
namespace Dl
variable [LamT] [XR]
open PySem PySem.Spec L2 PyProof.Rows
section
variable {K : PySem.W.Frag} {δ : List Slot} {k : Res → Prop} {te ta tb : TE} {g : TG} {tt : TT} {ds : List PyData} {vs : List Nat}
theorem lc_mapc {β : Type} (xs : List β) (enc out : β → PyData) (hz : xs.length ≤ 1000000) (h : ∀ x ∈ xs, GE K g (.dat (enc x)) (wipeS δ vs) (fun j => j ∈ vs) fun δ' => EvC K te δ' fun r => r = .dat (out x))
    (hk : k (.fresh (xs.map out))) : LcP K (xs.map enc) g tYes te vs δ k := by
  refine lc_fn (xs.map out) (by simp) (by simpa using hz) (fun i d hd => ?_) hk
  rw [List.getElem?_map] at hd
  obtain ⟨x, hx, rfl⟩ := Option.map_eq_some_iff.mp hd
  refine (h x (List.mem_of_getElem? hx)).imp fun δ' ev => ev.imp fun r hr => ⟨_, hr, ?_⟩
  rw [List.getElem?_map, hx]
  rfl
theorem lc_filtc {β : Type} (xs : List β) (keep : β → Bool) (enc out : β → PyData) (hz : xs.length ≤ 1000000)
    (h : ∀ x ∈ xs, GE K g (.dat (enc x)) (wipeS δ vs) (fun j => j ∈ vs) fun δ' => EvT K tt δ' fun b => b = keep x ∧ (keep x = true → EvC K te δ' fun r => r = .dat (out x)))
    (hk : k (.fresh ((xs.filter keep).map out))) : LcP K (xs.map enc) g tt te vs δ k := by
  refine ⟨fun i acc => acc = ((xs.take i).filter keep).map out, rfl, by simpa using hz, fun i d acc hd ha => ?_, fun o ho => ?_⟩
  · subst ha
    rw [List.getElem?_map] at hd
    obtain ⟨x, hx, rfl⟩ := Option.map_eq_some_iff.mp hd
    refine (h x (List.mem_of_getElem? hx)).imp fun δ' ev => ev.imp fun b ⟨hb, he⟩ => ⟨fun e => (he (hb ▸ e)).imp fun r hr => ⟨_, hr, ?_⟩, fun e => ?_⟩
    · show _ = List.map out (List.filter keep (xs.take (i + 1)))
      rw [List.take_add_one, hx, List.filter_append, List.map_append]
      have : keep x = true := hb ▸ e
      simp [this]
    · show _ = List.map out (List.filter keep (xs.take (i + 1)))
      rw [List.take_add_one, hx, List.filter_append, List.map_append]
      have : keep x = false := hb ▸ e
      simp [this]
  · subst ho
    rw [List.length_map, List.take_length]
    exact hk
/-- each item over a list of data: the list told by what each gives -/
theorem lc_each {Q : PyData → PyData → Prop} (hz : ds.length ≤ 1000000) (h : ∀ d ∈ ds, GE K g (.dat d) (wipeS δ vs) (fun j => j ∈ vs) fun δ' => EvC K te δ' fun r => ∃ e, r = .dat e ∧ Q d e)
    (hk : ∀ out : List PyData, out.length = ds.length → (∀ (i : Nat) (d e : PyData), ds[i]? = some d → out[i]? = some e → Q d e) → k (.fresh out)) : LcP K ds g tYes te vs δ k := by
  refine lc_all (fun i e => ∃ d, ds[i]? = some d ∧ Q d e) hz (fun i d hd => (h d (List.mem_of_getElem? hd)).imp fun δ' ev => ev.imp fun r ⟨e, hr, q⟩ => ⟨e, hr, d, hd, q⟩) fun out ho ha => hk out ho fun i d e hd he => ?_
  obtain ⟨d', h1, h2⟩ := ha i e he
  rw [hd] at h1
  cases h1
  exact h2
end
end Dl

/-! own layer: t[::-1] of a tuple; a tuple of the top -/
namespace Dl
variable [LamT] [XR]
open PySem PySem.Spec L2 PyProof.Rows HT
section
variable {prog : Program} {w : World} {A : Around} {E : Value → Shared → Prop} {s : Shared}
theorem applied_rev {sl : Addr} {vl vu vs : Value} {n : Nat} {Q : Int × Int × Nat → Shared → Prop} (hs : s.heap.IsSliceOf sl vl vu vs) (pl : IsPart vl none) (pu : IsPart vu none) (ps : IsPart vs (some (-1)))
    (h : Q ((n : Int) - 1, -1, n) s) : wpAny (model prog w) A (Builtin.Slice.sliceApplied (.ref sl) (pure (n : Int))) Q E s := by
  obtain ⟨os, hos, _, hds⟩ := id hs
  unfold Builtin.Slice.sliceApplied Builtin.Slice.sliceFields
  refine wpAny_bind (wpAny_bind (wpAny_field hos hds (x := vl) rfl (wpAny_bind (wpAny_field hos hds (x := vu) rfl (wpAny_bind (wpAny_field hos hds (x := vs) rfl (wpAny_pure ?_)))))))
  refine wpAny_bind (slicePart_ ps ?_)
  show wpAny _ _ (if ((-1 : Int) == 0) = true then _ else _) _ _ s
  rw [if_neg (by decide)]
  refine wpAny_bind (slicePart_ pl (wpAny_bind (slicePart_ pu (wpAny_bind (wpAny_pure ?_)))))
  show wpAny _ _ (match Builtin.Slice.sliceAdjust none none (-1) (n : Int) with | (lo, hi) => pure (lo, (-1 : Int), Builtin.Slice.slicePlaces lo hi (-1))) _ _ s
  have e1 : Builtin.Slice.sliceAdjust none none (-1) (n : Int) = ((n : Int) - 1, -1) := rfl
  rw [e1]
  show wpAny _ _ (pure ((n : Int) - 1, (-1 : Int), Builtin.Slice.slicePlaces ((n : Int) - 1) (-1) (-1))) _ _ s
  have e2 : Builtin.Slice.slicePlaces ((n : Int) - 1) (-1) (-1) = n := by
    unfold Builtin.Slice.slicePlaces
    rw [if_neg (by decide)]
    by_cases hn : n = 0
    · subst hn
      decide
    · rw [if_pos (by omega)]
      have : ((n : Int) - 1 - -1 - 1) / (-(-1)) = (n : Int) - 1 := by
        rw [show (-(-1) : Int) = 1 by decide, Int.ediv_one]
        omega
      rw [this]
      omega
  rw [e2]
  exact wpAny_pure h
theorem fm_map {α β : Type} {f : α → Option β} {g : α → β} : ∀ {l : List α}, (∀ m ∈ l, f m = some (g m)) → l.filterMap f = l.map g
  | [], _ => rfl
  | x :: l, h => by
    rw [List.filterMap_cons, h x (by simp), List.map_cons, fm_map fun m hm => h m (List.mem_cons_of_mem _ hm)]
theorem pick_rev (xs : Array Value) : ((List.range xs.size).filterMap fun (m : Nat) => xs[((xs.size : Int) - 1 + (m : Int) * (-1)).toNat]?).toArray = xs.toList.reverse.toArray := by
  congr 1
  have h1 : ((List.range xs.size).filterMap fun (m : Nat) => xs[((xs.size : Int) - 1 + (m : Int) * (-1)).toNat]?) = (List.range xs.size).map fun m => xs.toList.getD (xs.size - 1 - m) .none := by
    refine fm_map fun m hm => ?_
    have hm := List.mem_range.mp hm
    have e : ((xs.size : Int) - 1 + (m : Int) * (-1)).toNat = xs.size - 1 - m := by omega
    rw [e]
    show _ = some _
    rw [List.getD_eq_getElem?_getD, Array.getElem?_toList, Array.getElem?_eq_getElem (by omega)]
    rfl
  rw [h1]
  refine List.ext_getElem? fun i => ?_
  rw [List.getElem?_map]
  by_cases h : i < xs.size
  · rw [List.getElem?_range h, List.getElem?_reverse (by rw [Array.length_toList]; exact h), Array.length_toList]
    show some (xs.toList.getD (xs.size - 1 - i) .none) = _
    rw [List.getD_eq_getElem?_getD, List.getElem?_eq_getElem (by rw [Array.length_toList]; omega)]
    rfl
  · rw [List.getElem?_eq_none (by rw [List.length_range]; omega), List.getElem?_eq_none (by rw [List.length_reverse, Array.length_toList]; omega)]
    rfl
theorem getItem_revT {t sl : Addr} {items : Array Value} {vl vu vs : Value} {Q : Value → Shared → Prop} (ht : IsTup s.heap t items) (hs : s.heap.IsSliceOf sl vl vu vs) (pl : IsPart vl none) (pu : IsPart vu none) (ps : IsPart vs (some (-1)))
    (h : Q (.ref s.heap.objs.size) { s with heap := s.heap.push { cls := .type "tuple", data := .seq items.toList.reverse.toArray } }) (hsz : items.size ≤ sizeLine) : wpAny (model prog w) A (getItem (.ref t) (.ref sl)) Q E s := by
  have ok : sizeOk (.seq items.toList.reverse.toArray) := by
    show items.toList.reverse.toArray.size ≤ sizeLine
    rw [List.size_toArray, List.length_reverse, Array.length_toList]
    exact hsz
  obtain ⟨os, hos, hcs, _⟩ := id hs
  have hTs : s.TypeIs (.ref sl) "slice" := ⟨os, hos, hcs⟩
  unfold getItem
  try with_reducible refine wpAny_holding ?_
  first | refine wpAny_bind (wpAny_pure ?_) | skip
  refine wpAny_bind (wpAny_sequenceKey ht.typeIs (by decide) (wpAny_bind (wpAny_callSpecial?_slot (name := Str.ofString "__getitem__") ht.typeIs PyProof.Rows.slot_tuple_getitem (wpAny_call_entry PyProof.Rows.slot_tuple_getitem ht.typeIs entry_tuple_getitem ?_ (args_tuple_getitem _ _)))))
  refine wpAny_bind (m := Builtin.Tuple.tupleItemsOf (.ref t)) (tupleItemsOf_ ht ?_)
  refine wpAny_bind (wpAny_typeOf hTs ?_)
  rw [if_pos (by decide)]
  refine wpAny_bind (applied_rev hs pl pu ps ?_)
  have hno : ¬ ((((items.size : Int) - 1) == 0 && (-1 : Int) == 1 && items.size == items.size) = true) := by
    intro q
    rw [Bool.and_eq_true, Bool.and_eq_true] at q
    exact absurd (eq_of_beq q.1.2) (by decide)
  show wpAny _ _ (if (((items.size : Int) - 1) == 0 && (-1 : Int) == 1 && items.size == items.size) = true then _ else _) _ _ s
  rw [if_neg hno, pick_rev]
  first
    | exact wpAny_bind (m := Builtin.Tuple.tupleExact _) (wpAny_newObj_type (wpAny_pure ⟨_, rfl, wpAny_pure h⟩) ok)
    | exact wpAny_bind (m := Builtin.Tuple.tupleExact _) (wpAny_newObj_type (wpAny_bind (wpAny_pure (wpAny_pure ⟨_, rfl, wpAny_pure h⟩))) ok)
    | exact wpAny_bind (wpAny_bind (m := Builtin.Tuple.tupleExact _) (wpAny_newObj_type (wpAny_pure (wpAny_pure ⟨_, rfl, wpAny_pure h⟩)) ok))
    | exact wpAny_bind (wpAny_bind (m := Builtin.Tuple.tupleExact _) (wpAny_newObj_type (wpAny_pure ⟨_, rfl, wpAny_pure h⟩) ok))
end
section
variable {K : PySem.W.Frag} {δ : List Slot} {te : TE} {k : Res → Prop}
def tRevT (K : PySem.W.Frag) (te : TE) : TE := fun σ H Q => te σ H fun x H1 => ∃ a xs, x = V.ref a ∧ SqT K H1 a xs ∧ ∀ p, H1 p = none → Q (.ref p) (upd H1 p (.tup xs.reverse))
theorem pe_revT {X : Cx} {e : Expr} {te : TE} {k : Nat} {p1 p2 p3 pos : Pos} (K : PySem.W.Frag) (he : PE X e te) (hK : X.K = K := by rfl) : PE X (.Subscript e (.Slice none none (some (.UnaryOp .USub (.Constant (.int 1) k p1) p2)) p3) pos) (tRevT K te) := by
  subst hK
  refine ⟨fun pins s σ H Q I h => Subscript_ (thn (he.run pins s σ H _ I h) fun v s1 ⟨x, H1, I1, r1, a, xs, ex, hx, q⟩ => ?_)⟩
  subst ex
  cases r1
  have step : PO X (some (.UnaryOp .USub (.Constant (.int 1) k p1) p2)) (tPart (tUn (rU fun i => .int (-i)) (tC (.int 1)))) := po_some (pe_un un_neg pe_int)
  refine wpAny_Slice (thn (po_none.run pins s1 σ H1 (fun o H2 => o = none ∧ H2 = H1) I1 ⟨rfl, rfl⟩) fun vl s2 ⟨l, H2, I2, pl, el, e2⟩ => ?_)
  subst el e2
  refine thn (po_none.run pins s2 σ H2 (fun o H3 => o = none ∧ H3 = H2) I2 ⟨rfl, rfl⟩) fun vu s3 ⟨u, H3, I3, pu, eu, e3⟩ => ?_
  subst eu e3
  refine thn (step.run pins s3 σ H3 (fun o H4 => o = some (-1) ∧ H4 = H3) I3 ⟨1, rfl, -1, rfl, rfl, rfl⟩) fun vs s4 ⟨o, H4, I4, ps, eo, e4⟩ => ?_
  subst eo e4
  have I5 : Inv X pins σ H4 { s4 with heap := s4.heap.push { cls := .type "slice", data := .fields #[vl, vu, vs] } } := I4.kept (t' := s4.toks) fun b ob q => Heap.get?_push_of_some _ q
  obtain ⟨its, r, ht, hz⟩ := I5.tuple hx
  have hlen := r.length
  show wpAny (model X.prog X.w) X.A (subscriptTail e (.Slice none none (some (.UnaryOp .USub (.Constant (.int 1) k p1) p2)) p3) (.ref a) (.ref s4.heap.objs.size)) (EP X pins σ Q) X.xe { s4 with heap := s4.heap.push { cls := .type "slice", data := .fields #[vl, vu, vs] } }
  refine tail_any (ops := [.ref a, .ref s4.heap.objs.size]) ht.typeIs PyProof.Rows.slot_tuple_getitem.lookup ?_ (by with_unfolding_all rfl)
  refine getItem_revT ht (Heap.IsSliceOf.new _ vl vu vs) pl pu ps ?_ (by rw [List.size_toArray]; omega)
  refine ⟨.ref _, _, I5.laid (t' := s4.toks) (o := .tup xs.reverse) (fun b ob q => Heap.get?_push_of_some _ q) (Nat.le_refl _) ?_, rfl, q _ (I5.hok.fresh (Nat.le_refl _))⟩
  exact ⟨by rw [List.length_reverse]; exact hz, its.reverse, r.reverse, IsTup.new _ _⟩
theorem ec_revT (h : EvC K te δ fun x => ∃ ds, x = .dat (.tuple ds) ∧ k (.dat (.tuple ds.reverse))) : EvC K (tRevT K te) δ k := by
  intro B H σ R Q q
  refine h B H σ R _ fun v H1 x e o ⟨ds, hx, kx⟩ => ?_
  subst hx
  cases o with
  | tup sx ix => exact ⟨_, _, rfl, sx, fun p hp => q _ _ _ (e.trans (same_new hp)) (rTupN hp ix.reverse) kx⟩
/-- a tuple of two ints that stands at the top -/
theorem stat_pair {a : Addr} {i j : Int} {t u : Tok} {n : Nat} {od : Option Addr} {sl : Array (Option Value)} (hex : exV [.int i, .int j]) (h : K.lookup a = some ⟨.type "tuple", od, .seq #[.int i t, .int j u] n, sl⟩) (H : Hp) : Im K H (.ref a) (.tuple [.int i, .int j]) := by
  refine .tup (xs := [.int i, .int j]) (.inr ⟨_, _, _, h, rfl, rfl, (by show 2 ≤ sizeLine; decide), .cons ⟨_, rfl⟩ (.cons ⟨_, rfl⟩ .nil)⟩) (.cons (.int i) (.cons (.int j) .nil)) (.inl (.inr hex))
end
end Dl

/-! own layer: `is` and `is not` of truths -/
namespace Dl
variable [LamT] [XR]
open PySem PySem.Spec L2 PyProof.Rows
section
variable {K : PySem.W.Frag}
def rIsBl : R2 := fun x y H Q => ∃ a b, x = .bl a ∧ y = .bl b ∧ Q (.bl (decide (a = b))) H
def rNotBl : R2 := fun x y H Q => ∃ a b, x = .bl a ∧ y = .bl b ∧ Q (.bl (!decide (a = b))) H
theorem oIsBl {X : Cx} : OpR X (compareOp .Is) rIsBl := op_is_bl
theorem oNotBl {X : Cx} : OpR X (compareOp .IsNot) rNotBl := op_isnot_bl
inductive IsB (f : Bool → Bool) : Res → Res → (Res → Prop) → Prop
  | mk {a b : Bool} {k : Res → Prop} : k (.dat (.bool (f (decide (a = b))))) → IsB f (.dat (.bool a)) (.dat (.bool b)) k
theorem opIsBl : OpOk K rIsBl (IsB id) := by
  intro B H H1 x y rx ry k Q e0 e1 ox oy p q
  cases p with
  | mk g =>
    cases ox
    cases oy
    exact ⟨_, _, rfl, rfl, q _ _ _ (Same.refl _) rBl g⟩
theorem opNotBl : OpOk K rNotBl (IsB not) := by
  intro B H H1 x y rx ry k Q e0 e1 ox oy p q
  cases p with
  | mk g =>
    cases ox
    cases oy
    exact ⟨_, _, rfl, rfl, q _ _ _ (Same.refl _) rBl g⟩
end
end Dl

/-! own layer: zip of a list and a tuple in any mix -/
namespace Dl
variable [LamT] [XR]
open PySem PySem.Spec L2 PyProof.Rows RZ
def ItzM (K : PySem.W.Frag) (b c : Bool) (a d : Addr) : It :=
  ⟨fun i H => ∃ (xs ys : List V) (x y : V), Sq K b H a xs ∧ Sq K c H d ys ∧ xs[i]? = some x ∧ ys[i]? = some y,
    fun i H v H' => ∃ p x y, v = .ref p ∧ H p = none ∧ H' = upd H p (.tup [x, y]) ∧ (∀ l, Sq K b H a l → l[i]? = some x) ∧ ∀ l, Sq K c H d l → l[i]? = some y,
    fun i H => ∃ xs ys : List V, Sq K b H a xs ∧ Sq K c H d ys ∧ i = min xs.length ys.length⟩
theorem turn_zipM {P : Program} {w : World} {K : PySem.W.Frag} {elts : List Expr} {kk : Nat} {tpos : Pos} (b c : Bool) {a d z TI TO i1 i2 : Addr} (D : ZipSep2 z TI TO i1 i2 [i1, a] [i2, d]) :
    Turn P w K (.Tuple elts kk tpos) (ItzM K b c a d) [z, TI, TO, i1, i2] z (fun i h => IsZip h z TI TO .none ∧ IsTupOf2 h TI (.ref i1) (.ref i2) ∧ (∃ p q, IsTupOf2 h TO p q) ∧ IsIt b h i1 a i ∧ IsIt c h i2 d i) where
  mem := by simp
  obj := by
    rintro i h ⟨hz, hT, ⟨p, q, hO⟩, g1, g2⟩ e he
    simp only [List.mem_cons, List.not_mem_nil, or_false] at he
    rcases he with rfl | rfl | rfl | rfl | rfl
    · exact ⟨_, hz, fun _ u => nomatch u⟩
    · exact ⟨_, hT, fun _ u => nomatch u⟩
    · exact ⟨_, hO, fun _ u => nomatch u⟩
    · exact g1.obj
    · exact g2.obj
  keep := by
    rintro i h h' ⟨hz, hT, ⟨p, q, hO⟩, g1, g2⟩ k
    exact ⟨k z (by simp) _ hz, k TI (by simp) _ hT, ⟨p, q, k TO (by simp) _ hO⟩, g1.at fun o e => k i1 (by simp) o e, g2.at fun o e => k i2 (by simp) o e⟩
  item := by
    intro X hP hw hK hc i pins s σ H E I hf st hg
    subst hP hw hK
    obtain ⟨hz, hT, ⟨p0, q0, hO⟩, g1, g2⟩ := st
    obtain ⟨xs, ys, x, y, sx, sy, hx, hy⟩ := hg
    obtain ⟨us, rx, qx, _⟩ := sq_its I sx
    obtain ⟨vs, ry, qy, _⟩ := sq_its I sy
    have hh : X.A.in1.handled = none := I.ok.hd hc
    have lx : i < us.toArray.size := by
      have := (List.getElem?_eq_some_iff.mp hx).1
      rw [rx.length] at this
      simpa using this
    have ly : i < vs.toArray.size := by
      have := (List.getElem?_eq_some_iff.mp hy).1
      rw [ry.length] at this
      simpa using this
    have lz : z < s.heap.objs.size := Heap.lt_size hz
    refine wpAny_pyNext_zipD2_item (i := i) D (draws_sq hh b i1 a (g1.ne qx) us.toArray) (draws_sq hh c i2 d (g2.ne qy) vs.toArray) hz hT hO ⟨g1, qx⟩ ⟨g2, qy⟩ lx ly fun u v h1 tk eu ev hz1 hO1 st1 st2 hN hsz hk => ?_
    obtain ⟨u', hu', ru⟩ := rx.get hx
    obtain ⟨v', hv', rv⟩ := ry.get hy
    have e1 : us.toArray[i]? = some u := eu
    have e2 : vs.toArray[i]? = some v := ev
    have e1' : us.toArray[i]? = us[i]? := by simp
    have e2' : vs.toArray[i]? = vs[i]? := by simp
    obtain rfl : u' = u := Option.some.inj (hu'.symm.trans (e1'.symm.trans e1))
    obtain rfl : v' = v := Option.some.inj (hv'.symm.trans (e2'.symm.trans e2))
    refine ⟨_, rfl, wpAny_letOwnedTupleGo_zip (s := { s with heap := h1, toks := tk }) hz1 fun h2 hz2 sb => ?_⟩
    have hN2 := (sb.2 _ (Nat.ne_of_gt lz)).trans hN
    have new : ObjOk X.prog X.w (upd H s.heap.objs.size (.tup [x, y])) h2 s.heap.objs.size (.tup [x, y]) :=
      ⟨(by decide : 2 ≤ sizeLine), [u', v'], .cons ru (.cons rv .nil), ⟨_, hN2, rfl, _, rfl⟩⟩
    have far : ∀ e, e ∉ [z, TI, TO, i1, i2] → e ≠ z ∧ e ≠ TO ∧ e ≠ i1 ∧ e ≠ i2 := fun e he => ⟨fun q => he (by simp [q]), fun q => he (by simp [q]), fun q => he (by simp [q]), fun q => he (by simp [q])⟩
    have I1 : Inv X pins σ (upd H s.heap.objs.size (.tup [x, y])) { s with heap := h2, toks := tk } :=
      I.turnedNew (ch := [z, TI, TO, i1, i2]) (fun e o he q => (sb.2 e (far e he).1).trans (hk e o (far e he).1 (far e he).2.1 (far e he).2.2.1 (far e he).2.2.2 q)) hf (Nat.le_refl _) new
    refine ⟨.ref s.heap.objs.size, _, I1, rfl, ⟨_, x, y, rfl, I.hok.fresh (Nat.le_refl _), rfl, fun l hl => by rw [sq_inj I hl sx]; exact hx, fun l hl => by rw [sq_inj I hl sy]; exact hy⟩, ⟨hz2, ?_, ⟨u', v', ?_⟩, ?_, ?_⟩, fun e he => ?_⟩
    · exact (sb.2 _ D.TIz).trans (hk _ _ D.TIz D.TITO D.TIi1 D.TIi2 hT)
    · exact (sb.2 _ D.TOz).trans hO1
    · exact st1.1.at fun o q => (sb.2 _ (Ne.symm D.zi1)).trans q
    · exact st2.1.at fun o q => (sb.2 _ (Ne.symm D.zi2)).trans q
    · have hlt : e < s.heap.objs.size := by
        simp only [List.mem_cons, List.not_mem_nil, or_false] at he
        rcases he with rfl | rfl | rfl | rfl | rfl
        · exact lz
        · exact Heap.lt_size hT
        · exact Heap.lt_size hO
        · obtain ⟨_, q, _⟩ := g1.obj
          exact Heap.lt_size q
        · obtain ⟨_, q, _⟩ := g2.obj
          exact Heap.lt_size q
      rw [upd_ne (Nat.ne_of_lt hlt)]
      exact (hf e he).1
  done := by
    intro X hP hw hK hc i pins s σ H E I hf st hg
    subst hP hw hK
    obtain ⟨hz, hT, ⟨p0, q0, hO⟩, g1, g2⟩ := st
    obtain ⟨xs, ys, sx, sy, hi⟩ := hg
    obtain ⟨us, rx, qx, _⟩ := sq_its I sx
    obtain ⟨vs, ry, qy, _⟩ := sq_its I sy
    have hh : X.A.in1.handled = none := I.ok.hd hc
    have lx : xs.length = us.toArray.size := by rw [rx.length, List.size_toArray]
    have ly : ys.length = vs.toArray.size := by rw [ry.length, List.size_toArray]
    refine wpAny_pyNext_zipD2_end (i := i) D (draws_sq hh b i1 a (g1.ne qx) us.toArray) (draws_sq hh c i2 d (g2.ne qy) vs.toArray) hz hT hO ⟨g1, qx⟩ ⟨g2, qy⟩ (by omega) (by omega) (by omega) fun h' tk hk => ⟨rfl, ?_⟩
    exact I.turnedL (t' := tk) (ch := [z, TI, TO, i1, i2]) (fun e o he q => hk e o (fun u => he (by simp [u])) (fun u => he (by simp [u])) (fun u => he (by simp [u])) (fun u => he (by simp [u])) q) hf
  self := fun A i s Q E st h => wpAny_pyIter_zip st.1 h
theorem sep5 (n a d : Nat) (la : a < n) (ld : d < n) : ZipSep2 (n + 4) (n + 2) (n + 3) n (n + 1) [n, a] [n + 1, d] := by
  have two : ∀ x y z : Nat, x ≠ y → x ≠ z → x ∉ [y, z] := fun x y z h1 h2 h => by
    rcases List.mem_cons.mp h with h | h
    · exact h1 h
    · exact h2 (List.mem_singleton.mp h)
  have k1 : n + 4 ≠ a := by omega
  have k2 : n + 3 ≠ a := by omega
  have k3 : n + 4 ≠ d := by omega
  have k4 : n + 3 ≠ d := by omega
  have k5 : n ≠ d := by omega
  have k6 : n + 1 ≠ a := by omega
  have c1 : n + 2 ≠ n + 4 := by omega
  have c2 : n + 3 ≠ n + 4 := by omega
  have c3 : n + 2 ≠ n + 3 := by omega
  have c4 : n + 2 ≠ n := by omega
  have c5 : n + 2 ≠ n + 1 := by omega
  have c6 : n + 4 ≠ n := by omega
  have c7 : n + 3 ≠ n := by omega
  have c8 : n + 4 ≠ n + 1 := by omega
  have c9 : n + 3 ≠ n + 1 := by omega
  have c0 : n ≠ n + 1 := by omega
  exact ⟨c1, c2, c3, c4, List.mem_cons_self, two _ _ _ c6 k1, two _ _ _ c7 k2, c5, List.mem_cons_self, two _ _ _ c8 k3, two _ _ _ c9 k4, two _ _ _ c0 k5, two _ _ _ (Ne.symm c0) k6⟩
def iZipM (K : PySem.W.Frag) (ta : TA) : TI := fun σ H R => ta σ H fun vs H1 => ∃ b c p q xs ys, vs = [.ref p, .ref q] ∧ Sq K b H1 p xs ∧ Sq K c H1 q ys ∧ R (ItzM K b c p q) H1
theorem pi_zipM {X : Cx} {e e2 : Expr} {ta : TA} {p pos tpos : Pos} {elts : List Expr} {kk : Nat} (hg : Gl X "zip") (hm : X.mg "zip" = none) (ha : PA X [e, e2] ta)
    (hs : starEach [e, e2] X.env = (false, eval e X.env) :: starEach [e2] X.env) (hpl : (backTo pos (starEach [e2] X.env)).any (·.1) = false) :
    PI X (.Tuple elts kk tpos) (.Call (.Name "zip" p) [e, e2] [] pos) (iZipM X.K ta) := by
  refine ⟨fun pins s σ H R I h => ?_⟩
  refine PyProof.Rows.Call_ (ld_blt I hg hm boot_zip (callWith_type1 (thn (ha.run pos pins s σ H _ I h) fun us s1 ⟨vs, H1, I1, r1, q1⟩ => ?_) hs hpl))
  obtain ⟨b, c, a, d, xs, ys, rfl, sx, sy, q⟩ := q1
  cases r1 with
  | cons r rr =>
    cases rr with
    | cons r' rr =>
      cases rr
      cases r
      cases r'
      obtain ⟨us, rx, qx, _⟩ := sq_its I1 sx
      obtain ⟨ws, ry, qy, _⟩ := sq_its I1 sy
      have la : a < s1.heap.objs.size := by
        cases b
        · obtain ⟨o, h, _⟩ := (show s1.heap.IsTuple a us.toArray from qx)
          exact Heap.lt_size h
        · obtain ⟨o, h, _⟩ := (show s1.heap.IsList a us.toArray from qx)
          exact Heap.lt_size h
      have ld : d < s1.heap.objs.size := by
        cases c
        · obtain ⟨o, h, _⟩ := (show s1.heap.IsTuple d ws.toArray from qy)
          exact Heap.lt_size h
        · obtain ⟨o, h, _⟩ := (show s1.heap.IsList d ws.toArray from qy)
          exact Heap.lt_size h
      generalize hn : s1.heap.objs.size = n at *
      have D := sep5 n a d la ld
      have fp : ∀ e, e ∈ [n + 4, n + 2, n + 3, n, n + 1] → FpOk X pins H1 e := fun e he => by
        have hle : s1.heap.objs.size ≤ e := by
          simp only [List.mem_cons, List.not_mem_nil, or_false] at he
          omega
        exact I1.fpOk hle (I1.hok.fresh hle)
      refine zip_begins2 (begins_sq b a us.toArray) (begins_sq c d ws.toArray) qx qy fun h' hz hT hO h1 h2 hsz hk => ?_
      rw [hn] at hz hT hO h1 h2 ⊢
      refine wpAny_pyIter_zip hz ?_
      exact ⟨n + 4, [n + 4, n + 2, n + 3, n, n + 1], _, _, H1, rfl, I1.kept (t' := s1.toks) hk, turn_zipM b c D, ⟨hz, hT, ⟨_, _, hO⟩, isIt_new h1, isIt_new h2⟩, fp, q⟩
section
variable {K : PySem.W.Frag} {δ : List Slot} {te : TE} {ta : TA}
theorem qZipM {X : Cx} (K : PySem.W.Frag) {e e2 : Expr} {ta : TA} {p pos tpos : Pos} {elts : List Expr} {kk : Nat} (hm : X.mg "zip" = none) (ha : PA X [e, e2] ta) (h : X.K = K := by rfl) (hg : Gl X "zip" := by rfl)
    (hs : starEach [e, e2] X.env = (false, eval e X.env) :: starEach [e2] X.env := by rfl) (hpl : (backTo pos (starEach [e2] X.env)).any (·.1) = false := by rfl) :
    PI X (.Tuple elts kk tpos) (.Call (.Name "zip" p) [e, e2] [] pos) (iZipM K ta) := by subst h; exact pi_zipM hg hm ha hs hpl
theorem walk_zM {G0 : Hp} {b c : Bool} {a d : Addr} {xs ys : List V} {ds es : List PyData} (h : Sq K b G0 a xs) (h' : Sq K c G0 d ys) (im : ImAll K G0 xs ds) (im' : ImAll K G0 ys es) : WalkOk K G0 (ItzM K b c a d) (zipD ds es) := by
  refine ⟨YPair (fun i => xs[i]?) (fun i => ys[i]?), ?_, fun i H x H' hi e y => ?_⟩
  · have e0 : (zipD ds es).length = min xs.length ys.length := by rw [zipD_len, im.length, im'.length]
    rw [e0]
    refine ⟨fun i H hi q => ?_, fun H q => ⟨xs, ys, sq_same q h, sq_same q h', rfl⟩, fun i H v H' _ q y => ?_⟩
    · have lx : i < xs.length := Nat.lt_of_lt_of_le hi (Nat.min_le_left _ _)
      have ly : i < ys.length := Nat.lt_of_lt_of_le hi (Nat.min_le_right _ _)
      exact ⟨xs, ys, xs[i], ys[i], sq_same q h, sq_same q h', List.getElem?_eq_getElem lx, List.getElem?_eq_getElem ly⟩
    · obtain ⟨p, u, z, h1, h2, h3, h4, h5⟩ := y
      exact ⟨p, u, z, h1, h2, h3, h4 xs (sq_same q h), h5 ys (sq_same q h')⟩
  · obtain ⟨p, u, z, rfl, hp, rfl, e1, e2⟩ := y
    obtain ⟨d1, h1, h2⟩ := im.getV e1
    obtain ⟨d2, h3, h4⟩ := im'.getV e2
    have sm : Same H (upd H p (.tup [u, z])) := same_new hp
    exact ⟨sm, _, zipD_get h1 h3, .tup (SqT.of upd_same) (.cons (h2.to (per_same (e.trans sm))) (.cons (h4.to (per_same (e.trans sm))) .nil)) (.inr upd_same)⟩
inductive ZipM (f : Res → Option (List PyData)) : List Res → (List PyData → Prop) → Prop
  | mk {x y : Res} {ds es : List PyData} {k : List PyData → Prop} : f x = some ds → f y = some es → k (zipD ds es) → ZipM f [x, y] k
theorem itl_zipM {k : List PyData → Prop} (h : EvA K ta δ fun rs => ZipM Res.still rs k) : ItL K (iZipM K ta) δ k := by
  intro B H σ R Rr q
  refine h B H σ R _ fun vs H1 rs e o z => ?_
  cases z with
  | mk h1 h2 g =>
    cases o with
    | cons o1 o2 =>
      cases o2 with
      | cons o2 o3 =>
        cases o3
        obtain ⟨b, p, us, rfl, a1, a2, a3⟩ := still_sq (R.same.trans e) o1 h1
        obtain ⟨c, r, ws, rfl, b1, b2, b3⟩ := still_sq (R.same.trans e) o2 h2
        exact ⟨b, c, p, r, us, ws, rfl, a1, b1, q _ H1 _ e (walk_zM a2 b2 a3 b3) g⟩
theorem ite_zipM {k : List PyData → Prop} (h : EvA K ta δ fun rs => ZipM Res.walked rs k) : ItE K (iZipM K ta) δ k := by
  intro B H σ R Rr q
  refine h B H σ R _ fun vs H1 rs e o z => ?_
  cases z with
  | mk h1 h2 g =>
    cases o with
    | cons o1 o2 =>
      cases o2 with
      | cons o2 o3 =>
        cases o3
        obtain ⟨b, p, us, rfl, a1, a3⟩ := walked_sq (R.same.trans e) o1 h1
        obtain ⟨c, r, ws, rfl, b1, b3⟩ := walked_sq (R.same.trans e) o2 h2
        exact ⟨b, c, p, r, us, ws, rfl, a1, b1, q _ H1 _ e (walk_zM a1 b1 a3 b3) g⟩
/-- a zip of two mapped lists -/
theorem zipD_map {α β : Type} (f : α → PyData) (g : β → PyData) (xs : List α) (ys : List β) : zipD (xs.map f) (ys.map g) = (xs.zip ys).map fun p => .tuple [f p.1, g p.2] := by
  refine List.ext_getElem? fun i => ?_
  rw [List.getElem?_map]
  by_cases h : i < min xs.length ys.length
  · have h1 : i < xs.length := by omega
    have h2 : i < ys.length := by omega
    rw [zipD_get (d := f xs[i]) (e := g ys[i]) (by rw [List.getElem?_map, List.getElem?_eq_getElem h1]; rfl) (by rw [List.getElem?_map, List.getElem?_eq_getElem h2]; rfl)]
    rw [List.getElem?_eq_getElem (by rw [List.length_zip]; exact h), List.getElem_zip]
    rfl
  · rw [List.getElem?_eq_none (by rw [zipD_len, List.length_map, List.length_map]; omega), List.getElem?_eq_none (by rw [List.length_zip]; omega)]
    rfl
theorem perm_map_inv {α β : Type} {f : α → β} {es l : List β} (h : es.Perm l) : ∀ xs : List α, l = xs.map f → ∃ ys : List α, es = ys.map f ∧ ys.Perm xs := by
  induction h with
  | nil =>
    intro xs e
    cases xs with
    | nil => exact ⟨[], rfl, .refl _⟩
    | cons x xs => cases e
  | cons x _ ih =>
    intro xs e
    cases xs with
    | nil => cases e
    | cons y xs =>
      rw [List.map_cons, List.cons.injEq] at e
      obtain ⟨ys, rfl, p⟩ := ih xs e.2
      exact ⟨y :: ys, by rw [List.map_cons, e.1], p.cons y⟩
  | swap x y l =>
    intro xs e
    match xs, e with
    | a :: b :: xs, e =>
      rw [List.map_cons, List.map_cons, List.cons.injEq, List.cons.injEq] at e
      exact ⟨b :: a :: xs, by rw [List.map_cons, List.map_cons, e.1, e.2.1, e.2.2], List.Perm.swap ..⟩
    | [a], e => cases e
    | [], e => cases e
  | trans _ _ ih1 ih2 =>
    intro xs e
    obtain ⟨ys, rfl, p⟩ := ih2 xs e
    obtain ⟨zs, rfl, q⟩ := ih1 ys rfl
    exact ⟨zs, rfl, q.trans p⟩
end
end Dl

/-! own layer: sorted of any data, lists and tuples; what is never reached -/
namespace Dl
variable [LamT] [XR]
open PySem PySem.Spec L2 PyProof.Rows
section
variable {prog : Program} {w : World} {A : Around} {E : Value → Shared → Prop} {s : Shared} {β : Type}
theorem sorted_seq {l : Addr} {T : String} {o : Obj} {n : Nat} {vs : List Value} {bs : List β} {enc : β → PyData} {R : Value → β → Prop} {Q : Value → Shared → Prop} (hT : T = "list" ∨ T = "tuple") (ho : s.heap.get? l = some o) (hc : o.cls = .type T) (hd : o.data = .seq vs.toArray n)
    (e : PySem.W.EachIs R vs bs) (er : PySem.W.EachIs (fun v b => ∃ as, Reads s.heap v (enc b) as) vs bs) (hal : PySem.W.AllAlike (bs.map enc)) (hk : PySem.W.Sortable (bs.map enc)) (hL : bs.length ≤ sizeLine) (hu : ∀ b, b ∈ bs → A.units + 2 + (enc b).depth < cLine)
    (h : ∀ (p : Addr) (h' : Heap) (m : Nat) (out : List Value), s.heap.get? p = none → (∀ b u, s.heap.get? b = some u → h'.get? b = some u) → h'.get? p = some (seqObj "list" out.toArray m) → PySem.W.EachIs R out (bs.mergeSort (PySem.W.dataLe false enc)) → Q (.ref p) { s with heap := h' }) :
    wpAny (model prog w) A (call (.builtin "sorted") [.ref l]) Q E s := by
  have hL' : vs.length ≤ sizeLine := by rw [e.length]; exact hL
  refine call_function_entry_kw kind_sorted plain_sorted entry_sorted (args_sorted1 _) ?_
  unfold Builtin.«sorted»
  refine wpAny_bind (m := checkCount "sorted" 1 1 _) (wpAny_pure (wpAny_bind (wpAny_collect_seq l hT ho hc hd (fun h1 k1 => ?_) (by rw [List.size_toArray]; exact hL'))))
  refine wpAny_bind (wpAny_newList ?_ hL')
  have hat : (h1.push (seqObj "list" vs.toArray 0)).get? h1.objs.size = some (seqObj "list" vs.toArray 0) := Heap.get?_push_size _ rfl
  show wpAny _ _ _ _ _ { s with heap := h1.push (seqObj "list" vs.toArray 0) }
  have k2 : ∀ b u, s.heap.get? b = some u → (PySem.W.sortingHeap (h1.push (seqObj "list" vs.toArray 0)) h1.objs.size vs).get? b = some u := fun b u q =>
    PySem.W.sortingHeap_old (Nat.ne_of_lt (Heap.lt_size (k1 _ _ q))) (Heap.get?_push_of_some _ (k1 _ _ q))
  have er' : PySem.W.EachIs (fun v b => ∃ as, Reads (PySem.W.sortingHeap (h1.push (seqObj "list" vs.toArray 0)) h1.objs.size vs) v (enc b) as) vs bs := er.mono fun _ _ ⟨as, r⟩ => ⟨as, PyProof.Rows.Reads.keeps k2 r⟩
  refine wpAny_bind (wpAny_holding (wpAny_call_entry_kw slot_list_sort ⟨_, hat, rfl⟩ entry_list_sort ?go (args_list_sort _)))
  case go =>
    refine PySem.W.list_sort_vals (s := { s with heap := h1.push (seqObj "list" vs.toArray 0) }) (A := A.in1.in1) hat
      (PySem.W.SortsAt.data (s := { s with heap := PySem.W.sortingHeap (h1.push (seqObj "list" vs.toArray 0)) h1.objs.size vs }) (PySem.W.each_map (R := fun v d => ∃ as, Reads (PySem.W.sortingHeap (h1.push (seqObj "list" vs.toArray 0)) h1.objs.size vs) v d as) enc er') hal hk (PySem.W.bound_map hu)) hL' ?_
    refine ⟨_, rfl, wpAny_pure ⟨_, rfl, ?_⟩⟩
    obtain ⟨m, hm⟩ := sortedHeap_at (vs := vs) (out := (PySem.W.sortVals (PySem.W.dataKind (PySem.W.sortingHeap (h1.push (seqObj "list" vs.toArray 0)) h1.objs.size vs) (bs.map enc)) false vs vs).toArray) hat
    refine h _ _ m _ ?_ (fun b u q => ?_) hm (PySem.W.sortVals_data false e er' hal)
    · cases hz : s.heap.get? h1.objs.size with
      | none => rfl
      | some u => exact absurd (Heap.lt_size (k1 _ _ hz)) (Nat.lt_irrefl _)
    · have q1 := k1 _ _ q
      have lt1 := Heap.lt_size q1
      have q2 : (h1.push (seqObj "list" vs.toArray 0)).get? b = some u := Heap.get?_push_of_some _ q1
      rw [sortedHeap_old (Nat.ne_of_lt lt1) (Heap.lt_size q2)]
      exact q2
end
/-! ### sorted over data -/
theorem each_rel : ∀ {xs : List V} {its : List Value} {ds : List PyData}, Vals xs its → xs.length = ds.length → PySem.W.EachIs (fun v (b : V × PyData) => RelV b.1 v) its (xs.zip ds)
  | _, _, [], .nil, _ => .nil
  | _, _, d :: ds, .cons r rr, hl => .cons r (each_rel rr (by simpa using hl))
theorem each_reads {X : Cx} {pins : List (Addr × Obj)} {σ : L2.St} {H : Hp} {s : Shared} (I : Inv X pins σ H s) : ∀ {xs : List V} {its : List Value} {ds : List PyData}, Vals xs its → DpAll X.K H xs ds → PySem.W.EachIs (fun v (b : V × PyData) => ∃ as, Reads s.heap v b.2 as) its (xs.zip ds)
  | _, _, _, .nil, .nil => .nil
  | _, _, _, .cons r rr, .cons h hh => .cons (Dp.reads I _ _ _ h r) (each_reads I rr hh)
theorem vals_of_each : ∀ {out : List Value} {zs : List (V × PyData)}, PySem.W.EachIs (fun v (b : V × PyData) => RelV b.1 v) out zs → Vals (zs.map (·.1)) out
  | _, _, .nil => .nil
  | _, _, .cons r rr => .cons r (vals_of_each rr)
def rSortD (K : PySem.W.Frag) : List V → Hp → VK → Prop := fun vs H Q => ∃ (a : Addr) (xs : List V) (ds : List PyData), vs = [V.ref a] ∧ (SqL K H a xs ∨ SqT K H a xs) ∧ DpAll K H xs ds ∧ PySem.W.AllAlike ds ∧ PySem.W.Sortable ds ∧ (∀ d ∈ ds, d.depth ≤ 60) ∧
  ∀ (zs : List (V × PyData)) (p : Addr), zs.Perm (xs.zip ds) → zs.map (·.2) = ds.mergeSort (PySem.W.dataLe false id) → H p = none → Q (.ref p) (upd H p (.lst (zs.map (·.1))))
theorem dpAll_len {K : PySem.W.Frag} {H : Hp} : ∀ {xs : List V} {ds : List PyData}, DpAll K H xs ds → xs.length = ds.length
  | _, _, .nil => rfl
  | _, _, .cons _ h => by simp [dpAll_len h]
theorem cr_sortD {X : Cx} (hu : X.A.units + 64 < cLine) : CallR X (.builtin "sorted") (rSortD X.K) := by
  intro pins s σ H vs us Q I r h
  obtain ⟨a, xs, ds, rfl, hs, dp, al, so, dd, q⟩ := h
  obtain ⟨u, rfl, ru⟩ := vals1 r
  obtain rfl : u = Value.ref a := ru
  have hl := dpAll_len dp
  have e2 : (xs.zip ds).map (·.2) = ds := List.map_snd_zip (by omega)
  have le : ∀ {p : Addr} {h' : Heap} {m : Nat} {out : List Value}, s.heap.get? p = none → (∀ b u, s.heap.get? b = some u → h'.get? b = some u) → h'.get? p = some (seqObj "list" out.toArray m) → xs.length ≤ sizeLine →
      PySem.W.EachIs (fun v (b : V × PyData) => RelV b.1 v) out ((xs.zip ds).mergeSort (PySem.W.dataLe false fun b => b.2)) → EP X pins σ Q (.ref p) { s with heap := h' } := fun {p h' m out} hn k hp hz ee => by
    have pm : ((xs.zip ds).mergeSort (PySem.W.dataLe false fun b => b.2)).Perm (xs.zip ds) := List.mergeSort_perm _ _
    have es : ((xs.zip ds).mergeSort (PySem.W.dataLe false fun b => b.2)).map (·.2) = ds.mergeSort (PySem.W.dataLe false id) :=
      (PySem.W.sort_maps (r := PySem.W.dataLe false fun b : V × PyData => b.2) (s := PySem.W.dataLe false id) (fun b : V × PyData => b.2) (fun _ _ _ _ => rfl)).trans (by rw [e2])
    have hH : H p = none := I.hok.gone hn
    refine ⟨.ref p, _, I.laidN (o := .lst (((xs.zip ds).mergeSort (PySem.W.dataLe false fun b => b.2)).map (·.1))) (t' := s.toks) k hn hH ⟨?_, out, m, vals_of_each ee, hp⟩, rfl, q _ p pm es hH⟩
    rw [List.length_map, pm.length_eq, List.length_zip]
    omega
  have al' : PySem.W.AllAlike ((xs.zip ds).map fun b => b.2) := by rw [e2]; exact al
  have so' : PySem.W.Sortable ((xs.zip ds).map fun b => b.2) := by rw [e2]; exact so
  have hu' : ∀ b, b ∈ xs.zip ds → X.A.units + 2 + (b.2).depth < cLine := fun b hb => by
    have := dd b.2 (List.of_mem_zip hb).2
    omega
  rcases hs with hs | hs
  · obtain ⟨its, rv, p, hz⟩ := I.list hs
    obtain ⟨o, ho, hc, n, hd⟩ := p.isList
    exact sorted_seq (enc := fun b => b.2) (.inl rfl) ho hc hd (each_rel rv hl) (each_reads I rv dp) al' so' (by rw [List.length_zip]; omega) hu' fun p h' m out hn k hp ee => le hn k hp hz ee
  · obtain ⟨its, rv, p, hz⟩ := I.tuple hs
    obtain ⟨o, ho, hc, n, hd⟩ := p
    exact sorted_seq (enc := fun b => b.2) (.inr rfl) ho hc hd (each_rel rv hl) (each_reads I rv dp) al' so' (by rw [List.length_zip]; omega) hu' fun p h' m out hn k hp ee => le hn k hp hz ee
theorem qSortD {X : Cx} (K : PySem.W.Frag) (hu : X.A.units + 64 < cLine) (h : X.K = K := by rfl) : CallR X (.builtin "sorted") (rSortD K) := by subst h; exact cr_sortD hu
inductive SortDP : List Res → (Res → Prop) → Prop
  | mk {x : Res} {ds : List PyData} {k : Res → Prop} : (x.items = some ds ∨ x = .dat (.tuple ds)) → PySem.W.AllAlike ds → PySem.W.Sortable ds → (∀ d ∈ ds, d.depth ≤ 60) → k (.fresh (ds.mergeSort (PySem.W.dataLe false id))) → SortDP [x] k
theorem im_zip {K : PySem.W.Frag} {H : Hp} : ∀ {xs : List V} {ds : List PyData}, ImAll K H xs ds → ∀ z ∈ xs.zip ds, Im K H z.1 z.2
  | _, _, .nil, z, hz => by simp at hz
  | _, _, .cons h hh, z, hz => by
    rcases List.mem_cons.mp hz with rfl | hz
    · exact h
    · exact im_zip hh z hz
theorem im_of_zip {K : PySem.W.Frag} {H : Hp} : ∀ (zs : List (V × PyData)), (∀ z ∈ zs, Im K H z.1 z.2) → ImAll K H (zs.map (·.1)) (zs.map (·.2))
  | [], _ => .nil
  | z :: zs, h => .cons (h z (by simp)) (im_of_zip zs fun y hy => h y (List.mem_cons_of_mem _ hy))
mutual
theorem nd_of_alike : ∀ d : PyData, PySem.W.alike d d = true → d.hasDict = false
  | .none, _ => by simp only [PyData.hasDict]
  | .bool _, _ => by simp only [PyData.hasDict]
  | .int _, _ => by simp only [PyData.hasDict]
  | .str _, _ => by simp only [PyData.hasDict]
  | .list ds, h => by
    simp only [PyData.hasDict]
    exact nd_of_alikeAll ds (by simpa only [PySem.W.alike] using h)
  | .tuple ds, h => by
    simp only [PyData.hasDict]
    exact nd_of_alikeAll ds (by simpa only [PySem.W.alike] using h)
  | .dict _, h => by simp [PySem.W.alike] at h
theorem nd_of_alikeAll : ∀ ds : List PyData, PySem.W.alikeAll ds ds = true → PyData.hasDictAll ds = false
  | [], _ => by simp only [PyData.hasDictAll]
  | d :: ds, h => by
    simp only [PySem.W.alikeAll, Bool.and_eq_true] at h
    simp only [PyData.hasDictAll, nd_of_alike d h.1, nd_of_alikeAll ds h.2, Bool.or_self]
end
theorem nd_of_alikes : ∀ ds : List PyData, (∀ d ∈ ds, PySem.W.alike d d = true) → PyData.hasDictAll ds = false
  | [], _ => by simp only [PyData.hasDictAll]
  | d :: ds, h => by simp only [PyData.hasDictAll, nd_of_alike d (h d (by simp)), nd_of_alikes ds fun x hx => h x (List.mem_cons_of_mem _ hx), Bool.or_self]
theorem cbSortD {K : PySem.W.Frag} : CbOk K (rSortD K) SortDP := by
  intro B H H1 vs rs k Q e0 e1 o p q
  cases p with
  | mk hx al so dd g =>
    cases o with
    | cons o1 o2 =>
      cases o2
      have fin : ∀ (a : Addr) (xs : List V) (ds : List PyData), (SqL K H1 a xs ∨ SqT K H1 a xs) → ImAll K H1 xs ds → PySem.W.AllAlike ds → PySem.W.Sortable ds → (∀ d ∈ ds, d.depth ≤ 60) → k (.fresh (ds.mergeSort (PySem.W.dataLe false id))) → rSortD K [.ref a] H1 Q := fun a xs ds hs im al so dd g => by
        refine ⟨a, xs, ds, rfl, hs, im.toDp (nd_of_alikes ds fun d hd => al d hd d hd), al, so, dd, fun zs p hp hz hn => ?_⟩
        have iz : ImAll K H1 (zs.map (·.1)) (zs.map (·.2)) := im_of_zip zs fun z hz => im_zip im z (hp.mem_iff.mp hz)
        rw [hz] at iz
        exact q _ _ _ (same_new hn) (rFreshN e1 hn iz) g
      rcases hx with hx | rfl
      · obtain ⟨a, xs, rfl, h1, h2⟩ := o1.list (e0.trans e1) hx
        exact fin a xs _ (.inl h1) h2 al so dd g
      · cases o1 with
        | tup sx ix => exact fin _ _ _ (.inr sx) ix al so dd g
/-! ### what is never reached -/
def tNeverS : TS := fun _ _ _ => False
theorem ps_nvr {X : Cx} {st : Stmt} : PS X st tNeverS := ⟨fun _ _ _ _ _ _ h => h.elim⟩
/-! ### the greatest of three integers -/
theorem vals3 {x y z : V} {us : List Value} (r : Vals [x, y, z] us) : ∃ u v w', us = [u, v, w'] ∧ RelV x u ∧ RelV y v ∧ RelV z w' := by
  cases r with
  | cons r1 r2 =>
    cases r2 with
    | cons r3 r4 =>
      cases r4 with
      | cons r5 r6 => cases r6; exact ⟨_, _, _, rfl, r1, r3, r5⟩
def m3 (i j l : Int) : Int := if j > i then (if l > j then l else j) else (if l > i then l else i)
def bMax3 : List V → Hp → VK → Prop := fun xs H Q => ∃ i j l, xs = [.int i, .int j, .int l] ∧ Q (.int (m3 i j l)) H
theorem cMax3 {X : Cx} (hc : X.calm = true) : CallR X (.builtin "max") bMax3 := by
  intro pins s σ H xs us Q I r h
  obtain ⟨i, j, l, rfl, q⟩ := h
  obtain ⟨u, v, w', rfl, ⟨t, rfl⟩, ⟨t', rfl⟩, ⟨t'', rfl⟩⟩ := vals3 r
  refine max_three_ints (I.ok.hd hc) fun h' tk k => ⟨_, H, I.kept k, ?_, q⟩
  unfold m3
  by_cases hj : j > i
  · rw [if_pos hj, if_pos hj]
    by_cases hl : l > j
    · rw [if_pos hl, if_pos hl]; exact ⟨_, rfl⟩
    · rw [if_neg hl, if_neg hl]; exact ⟨_, rfl⟩
  · rw [if_neg hj, if_neg hj]
    by_cases hl : l > i
    · rw [if_pos hl, if_pos hl]; exact ⟨_, rfl⟩
    · rw [if_neg hl, if_neg hl]; exact ⟨_, rfl⟩
inductive Int3P : List Res → (Res → Prop) → Prop
  | mk {i j l : Int} {k : Res → Prop} : k (.dat (.int (m3 i j l))) → Int3P [.dat (.int i), .dat (.int j), .dat (.int l)] k
theorem cbMax3 {K : PySem.W.Frag} : CbOk K bMax3 Int3P := by
  intro B H H1 vs rs k Q e0 e1 o p q
  cases p with
  | mk g =>
    cases o with
    | cons o1 o2 =>
      cases o2 with
      | cons o2 o3 =>
        cases o3 with
        | cons o3 o4 =>
          cases o1; cases o2; cases o3; cases o4
          exact ⟨_, _, _, rfl, q _ _ _ (Same.refl _) rInt g⟩
theorem m3_le (i j l : Int) : i ≤ m3 i j l ∧ j ≤ m3 i j l ∧ l ≤ m3 i j l := by unfold m3; split <;> split <;> omega
theorem m3_lt {i j l n : Int} (h1 : i ≤ n) (h2 : j ≤ n) (h3 : l ≤ n) : m3 i j l ≤ n := by unfold m3; split <;> split <;> omega
end Dl

/-! own layer: dicts: made, filled, walked, sorted -/
namespace Dl
variable [LamT] [XR]
open PySem PySem.Spec L2 PyProof.Rows
theorem vals_pt : ∀ {vs : List V} {us : List Value}, vs.length = us.length → (∀ (i : Nat) v u, vs[i]? = some v → us[i]? = some u → RelV v u) → Vals vs us
  | [], [], _, _ => .nil
  | [], _ :: _, h, _ => by simp at h
  | _ :: _, [], h, _ => by simp at h
  | v :: vs, u :: us, h, g => .cons (g 0 v u rfl rfl) (vals_pt (by simpa using h) fun i x y hx hy => g (i + 1) x y (by simpa using hx) (by simpa using hy))
/-! ### {} -/
section
variable {K : PySem.W.Frag} {δ : List Slot} {k : Res → Prop}
theorem ec_dnewK (q : k (.freshD false (kvD []))) : EvC K tDNewK δ k := fun B H σ R Q g p hp =>
  g _ _ _ (same_new hp) (rFreshD hp upd_same (.k .nil)) q
theorem ec_dnewT (q : k (.freshD true (tvD []))) : EvC K tDNewT δ k := fun B H σ R Q g p hp =>
  g _ _ _ (same_new hp) (rFreshD hp upd_same (.t .nil)) q
end
/-! ### a dict comprehension, keys of either kind -/
/-- the dict that it begins with -/
inductive Emp : HO → Prop
  | k : Emp (.dK [])
  | t : Emp (.dT [])
theorem Emp.ok {o : HO} (e : Emp o) {P : Program} {w : World} {H : Hp} (h : Heap) (hb : sysModules < h.objs.size) : ObjOk P w H (h.push { cls := .type "dict", data := .dict #[] }) h.objs.size o := by
  cases e
  · exact dk_empty h hb
  · exact dt_empty h hb
theorem emp_tbl {o : HO} (e : Emp o) : isTbl o = false := by cases e <;> rfl
theorem dset_any {X : Cx} {pins : List (Addr × Obj)} {σ : L2.St} {H H' : Hp} {s : Shared} {E : Value → Shared → Prop} {D : Addr} {y z : V} {u r : Value} {Q : Unit → Shared → Prop} (hu : X.A.units < cLine) (I : Inv X pins σ H s) (g : DPut H D y z H')
    (ry : RelV y u) (rz : RelV z r) (fin : ∀ s', Inv X pins σ H' s' → Q () s') : wpAny (model X.prog X.w) X.A (dictSet D u r) Q E s := by
  rcases g with ⟨kvs, k, e, rfl, l, rfl⟩ | ⟨kvs, k, b, e, rfl, eb, l, rfl⟩
  · exact d_dictSet I e l ry rz fin
  · cases (show u = Value.ref b from ry)
    obtain ⟨hz, hd, xs, rel, dd⟩ := dt_of I.hok e
    have hx : xs.length ≤ sizeLine := (Paired.length rel) ▸ hz
    have hy : (putK kvs k z).length ≤ sizeLine := Nat.le_trans (length_putK kvs k z) l
    refine wpAny_dictSet_heap (hsz := hx) (knd := tupleKind (mixKind X.prog X.w)) (show (tupleKind (mixKind X.prog X.w)).room X.A from hu) (key_of I.hok eb) dd fun h' dd' hs => fin _ ?_
    obtain ⟨q, es, ep, hq, c2, c3, c4, _, c5⟩ := dd'
    refine d_write I (by rw [e]; trivial) hs ⟨q, hq⟩ ⟨hy, hd, _, (rel.put k eb rz).keeps fun c ys ec => ?_, q, es, ep, hq, c2, c3, c4, c5⟩
    rw [upd_ne (ne_of ec e fun z => nomatch z), ec]
section
variable {X : Cx}
/-- D is the new dict, o0 what it begins with -/
def tDcA (o0 : HO) (wi : TI) (g : TG) (tt : TT) (tk tv : TE) (vs : List Nat) : TE := fun σ H Q =>
  wi σ H fun J Ha => ∀ D, Ha D = none → ∃ Z : Nat → Nat → Hp → Prop, (∃ m, Z 0 m (upd Ha D o0)) ∧ ∀ j m Hb, Z j m Hb →
    (J.stop j Hb ∧ Q (.ref D) Hb) ∨ (J.go j Hb ∧ ∃ On : Hp → Prop, (∀ Hc, On Hc → ∃ m', m' < m ∧ Z (j + 1) m' Hc) ∧ ∀ x Hc, J.yld j Hb x Hc →
      g x (L2.wipe σ vs) Hc fun ρ Hd => L2.wipe ρ vs = L2.wipe σ vs ∧ tt ρ Hd fun b He => if b = true then tk ρ He fun y Hf => tv ρ Hf fun z Hg => ∃ Hh, DPut Hg D y z Hh ∧ On Hh else On He)
theorem dcA_run {pins : List (Addr × Obj)} {s : Shared} {σ : L2.St} {H : Hp} {Q : VK} {o0 : HO} {ek ev et ei : Expr} {ifs : List Expr} {sco : Scope} {own : List (Str × Nat)} {p1 p2 : Pos} {wi : TI} {g : TG} {tt : TT} {tk tv : TE} {use : Option (Value → Sem Unit)} {Qf : Value → Shared → Prop}
    (e0 : Emp o0) (hcalm : X.calm = true) (room : X.A.units < cLine) (nodup : X.N.Nodup) (I : Inv X pins σ H s) (pi : PI X et ei wi) (blk : BlkOk X.N X.env.scope sco own)
    (pgt : ∀ (t : Shared) (G : Hp) (c : Addr) (cs : List (Str × Addr)) (fps : List Addr), PG (X.blk t G sco (compEnvC sco cs c X.env) fps) et g)
    (ptt : ∀ (t : Shared) (G : Hp) (c : Addr) (cs : List (Str × Addr)) (fps : List Addr), PTs (X.blk t G sco (compEnvC sco cs c X.env) fps) ifs tt)
    (pkt : ∀ (t : Shared) (G : Hp) (c : Addr) (cs : List (Str × Addr)) (fps : List Addr), PE (X.blk t G sco (compEnvC sco cs c X.env) fps) ek tk)
    (pvt : ∀ (t : Shared) (G : Hp) (c : Addr) (cs : List (Str × Addr)) (fps : List Addr), PE (X.blk t G sco (compEnvC sco cs c X.env) fps) ev tv) (fold : ∀ x, foldedSetIterable ei X.env x = pure x)
    (hq : tDcA o0 wi g tt tk tv (own.map (·.2)) σ H Q)
    (out : ∀ D c t m G, Inv X pins σ G t → Q (.ref D) G → t.heap.Ns c m → FpOk X pins G c → compPost (model X.prog X.w) X.A X.xe use Qf (.ref D) c (.ok .next) t) :
    wpAny (model X.prog X.w) X.A (comprehension (.DictComp ek ev [⟨et, ei, ifs, 0⟩] sco p1) sco X.env p2 newDict false (eval ei X.env) use) Qf X.xe s := by
  have clos : ∀ y ∈ sco.names, y.2 = .free → ∃ c, X.env.cells.lookup y.1 = some c := fun y hy e => (blk.free y hy e).elim (fun z => I.ok.has _ (.inl z)) fun z => I.ok.has _ (.inr z)
  refine wpAny_comprehension_free (use := use) rfl fold (closure_ok clos) blk.kind (fun y hy e => by rw [blk.uniq y hy, e]) (thn (pi.run pins s σ H _ I hq) fun v0 t1 k1 => thn k1 fun v1 t2 k2 => ?_)
  obtain ⟨it, fps, tn, J, Ha, rfl, Ia, T, at0, fresh0, body⟩ := k2
  refine wpAny_newObj_type (newEnv_comp ?_)
  obtain ⟨D, hD⟩ : ∃ D, D = t2.heap.objs.size := ⟨_, rfl⟩
  rw [← hD]
  have noD : Ha D = none := Ia.hok.fresh (Nat.le_of_eq hD.symm)
  obtain ⟨Z, ⟨m0, z0⟩, step⟩ := body D noD
  obtain ⟨t3, ht3⟩ : ∃ t3 : Shared, t3 = { t2 with heap := t2.heap.push { cls := .type "dict", data := .dict #[] } } := ⟨_, rfl⟩
  have heap3 : t3.heap = t2.heap.push { cls := .type "dict", data := .dict #[] } := by rw [ht3]
  have Ib : Inv X pins σ (upd Ha D o0) t3 := by
    rw [ht3]
    refine Ia.laid (t' := t2.toks) (fun b o e => Heap.get?_push_of_some _ e) (Nat.le_of_eq hD.symm) ?_
    rw [hD]
    exact e0.ok t2.heap Ia.big
  have small : ∀ b ∈ fps, b < t2.heap.objs.size := fun b hb => by
    obtain ⟨o, e, _⟩ := T.obj _ _ at0 b hb
    exact Heap.lt_size e
  have fp3 : ∀ b ∈ fps, FpOk X pins (upd Ha D o0) b ∧ b < t3.heap.objs.size := fun b hb => by
    have lt := small b hb
    have ne : b ≠ D := by rw [hD]; exact Nat.ne_of_lt lt
    exact ⟨⟨by rw [upd_ne ne]; exact (fresh0 b hb).1, (fresh0 b hb).2⟩, by rw [heap3, Heap.size_push]; exact Nat.lt_succ_of_lt lt⟩
  have at3 : tn 0 t3.heap := T.keep _ _ _ at0 fun b _ o e => by rw [heap3]; exact Heap.get?_push_of_some _ e
  have Ic := block_start Ib blk nodup fp3
  have a1 := pgt t3 (upd Ha D o0) t3.heap.objs.size (cellsFrom (t3.heap.objs.size + 1) sco.names (cloFrom X.env.cells sco.names [])) fps
  have a2 := ptt t3 (upd Ha D o0) t3.heap.objs.size (cellsFrom (t3.heap.objs.size + 1) sco.names (cloFrom X.env.cells sco.names [])) fps
  have a3 := pkt t3 (upd Ha D o0) t3.heap.objs.size (cellsFrom (t3.heap.objs.size + 1) sco.names (cloFrom X.env.cells sco.names [])) fps
  have a4 := pvt t3 (upd Ha D o0) t3.heap.objs.size (cellsFrom (t3.heap.objs.size + 1) sco.names (cloFrom X.env.cells sco.names [])) fps
  rw [← ht3]
  show codeAny _ _ (.compStart (.DictComp ek ev [⟨et, ei, ifs, 0⟩] sco p1) 0 (.ref it) (.ref D) (compEnvC sco (cellsFrom (t3.heap.objs.size + 1) sco.names (cloFrom X.env.cells sco.names [])) t3.heap.objs.size X.env)) (compPost (model X.prog X.w) X.A X.xe use Qf (.ref D) t3.heap.objs.size) { t3 with heap := pushCells (t3.heap.push { cls := .type "dict", data := .dict #[] }) sco.names }
  have noF : ∀ b ∈ fps, (upd Ha D o0) b = none := fun b hb => (fp3 b hb).1.1
  obtain ⟨ce, hce⟩ : ∃ ce, ce = compEnvC sco (cellsFrom (t3.heap.objs.size + 1) sco.names (cloFrom X.env.cells sco.names [])) t3.heap.objs.size X.env := ⟨_, rfl⟩
  rw [← hce] at Ic a1 a2 a3 a4 ⊢
  have loc : ce.locals = t3.heap.objs.size := by rw [hce]; rfl
  obtain ⟨Hn, hHn⟩ : ∃ Hn, Hn = upd Ha D o0 := ⟨_, rfl⟩
  rw [← hHn] at Ib Ic a1 a2 a3 a4 z0 noF fp3
  obtain ⟨t4, ht4⟩ : ∃ t4 : Shared, t4 = { t3 with heap := pushCells (t3.heap.push { cls := .type "dict", data := .dict #[] }) sco.names } := ⟨_, rfl⟩
  rw [← ht4] at Ic ⊢
  have at4 : tn 0 t4.heap := T.keep _ _ _ at3 fun b _ o e => by rw [ht4]; exact pushCells_keeps _ _ _ _ (Heap.get?_push_of_some _ e)
  have own_fp : ∀ {ρ : L2.St} {G : Hp} {t : Shared}, Inv (X.blk t3 Hn sco ce fps) [] ρ G t → (∀ b ∈ fps, G b = none) → ∀ b ∈ fps, FpOk (X.blk t3 Hn sco ce fps) [] G b := fun {ρ G t} I' n b hb =>
    ⟨n b hb, (I'.ok.exf b hb).1, I'.ok.exfs b hb, .inl hb, fun x c e => (I'.ok.exf b hb).2 x c e, fun q hq => absurd (show q ∈ ([] : List (Addr × Obj)) ++ [] from hq) (by simp)⟩
  have loop : codeAny (model X.prog X.w) X.A (.compLoop (.DictComp ek ev [⟨et, ei, ifs, 0⟩] sco p1) 0 (.ref it) (.ref D) ce) (compPost (model X.prog X.w) X.A X.xe use Qf (.ref D) t3.heap.objs.size) t4 := by
    refine compLoop_anyD (fun n t => ∃ j G, Inv (X.blk t3 Hn sco ce fps) [] (L2.wipe σ (own.map (·.2))) G t ∧ tn j t.heap ∧ (∀ b ∈ fps, G b = none) ∧ Z j n G) ?_ m0 ⟨0, Hn, Ic, at4, noF, z0⟩
    rintro n t5 ⟨j, G5, I5, at5, no5, z5⟩
    rcases step j n G5 z5 with ⟨fin, qq⟩ | ⟨more, On, back, turn⟩
    · refine thnF (T.done (X.blk t3 Hn sco ce fps) rfl rfl rfl hcalm j [] t5 _ G5 (fun _ _ => False) I5 (own_fp I5 no5) at5 fin) fun r t6 ⟨hr, I6⟩ => ?_
      subst hr
      have I7 : Inv X pins σ G5 t6 := Ib.call' (ch := fps) I6.os I6.base I6.hok I6.bare fun b hb => ⟨(fp3 b hb).1.2.2.2.1, (fp3 b hb).1.2.1, (fp3 b hb).1.2.2.2.2.1, (fp3 b hb).1.2.2.2.2.2⟩
      have none_at : G5 t3.heap.objs.size = none := by rw [← loc]; exact I6.free
      obtain ⟨m, hns, _⟩ := I6.loc
      have hns : t6.heap.Ns ce.locals m := hns
      rw [loc] at hns
      exact out D t3.heap.objs.size t6 m G5 I7 qq hns (Ib.fpOk (Nat.le_refl _) none_at)
    · refine thnF (T.item (X.blk t3 Hn sco ce fps) rfl rfl rfl hcalm j [] t5 _ G5 (fun _ _ => False) I5 (own_fp I5 no5) at5 more) fun r t6 ⟨u, hr, k6⟩ => ?_
      subst hr
      refine thnF k6 fun _ t7 ⟨x, G7, I7, r7, y7, at7, no7⟩ => ?_
      refine thnF (a1.run _ t7 _ G7 x u _ (I7.pinned (own_fp I7 no7) (T.obj _ _ at7)) r7 (turn x G7 y7)) fun _ t8 ⟨ρ, G8, I8, hw, q8⟩ => ?_
      refine thnF (a2.run _ t8 ρ G8 _ I8 q8) fun b t9 ⟨G9, I9, q9⟩ => ?_
      have close : ∀ {t : Shared} {G : Hp}, Inv (X.blk t3 Hn sco ce fps) ([] ++ pinsAt fps t7.heap) ρ G t → On G → ∃ m, m < n ∧ ∃ j G, Inv (X.blk t3 Hn sco ce fps) [] (L2.wipe σ (own.map (·.2))) G t ∧ tn j t.heap ∧ (∀ b ∈ fps, G b = none) ∧ Z j m G := fun {t G} I' on => by
        obtain ⟨m', lt, z'⟩ := back G on
        have held : ∀ b ∈ fps, ∀ o, t7.heap.get? b = some o → t.heap.get? b = some o ∧ G b = none := fun b hb o e =>
          have w := I'.pin (b, o) (List.mem_append_right _ (List.mem_append_right _ (mem_pinsAt hb e)))
          ⟨w.1, w.2.1⟩
        refine ⟨m', lt, j + 1, G, (I'.unpinned (pins := [])).weak (by rw [← hw, wipe_length]) (fun i v e => ?_), T.keep _ _ _ at7 fun b hb o e => (held b hb o e).1, fun b hb => ?_, z'⟩
        · rw [← hw] at e
          exact (wipe_some e).1
        · obtain ⟨o, e, _⟩ := T.obj _ _ at7 b hb
          exact (held b hb o e).2
      cases b with
      | false =>
        rw [if_neg Bool.false_ne_true] at q9 ⊢
        exact close I9 q9
      | true =>
        rw [if_pos rfl] at q9 ⊢
        refine thnF (a3.run _ t9 ρ G9 _ I9 q9) fun vk t10 ⟨y, G10, I10, r10, q10⟩ => ?_
        refine thnF (a4.run _ t10 ρ G10 _ I10 q10) fun vv t11 ⟨z, G11, I11, r11, G12, dp, on⟩ => ?_
        exact dset_any (X := X.blk t3 Hn sco ce fps) room I11 dp r10 r11 fun t12 I12 => close I12 on
  exact codeAny_compStart_dict loop (T.self X.A 0 _ _ _ at4 loop)
theorem pe_dcA {o0 : HO} {ek ev et ei : Expr} {ifs : List Expr} {sco : Scope} {own : List (Str × Nat)} {pos : Pos} {wi : TI} {g : TG} {tt : TT} {tk tv : TE} (e0 : Emp o0) (hcalm : X.calm = true) (room : X.A.units < cLine) (nodup : X.N.Nodup) (pi : PI X et ei wi) (blk : BlkOk X.N X.env.scope sco own)
    (pgt : ∀ (t : Shared) (G : Hp) (c : Addr) (cs : List (Str × Addr)) (fps : List Addr), PG (X.blk t G sco (compEnvC sco cs c X.env) fps) et g)
    (ptt : ∀ (t : Shared) (G : Hp) (c : Addr) (cs : List (Str × Addr)) (fps : List Addr), PTs (X.blk t G sco (compEnvC sco cs c X.env) fps) ifs tt)
    (pkt : ∀ (t : Shared) (G : Hp) (c : Addr) (cs : List (Str × Addr)) (fps : List Addr), PE (X.blk t G sco (compEnvC sco cs c X.env) fps) ek tk)
    (pvt : ∀ (t : Shared) (G : Hp) (c : Addr) (cs : List (Str × Addr)) (fps : List Addr), PE (X.blk t G sco (compEnvC sco cs c X.env) fps) ev tv) (fold : ∀ x, foldedSetIterable ei X.env x = pure x := by intro _; rfl) :
    PE X (.DictComp ek ev [⟨et, ei, ifs, 0⟩] sco pos) (tDcA o0 wi g tt tk tv (own.map (·.2))) := by
  refine ⟨fun pins s σ H Q I hq => ?_⟩
  rw [arm_eval_DictComp]
  refine dcA_run e0 hcalm room nodup I pi blk pgt ptt pkt pvt fold hq fun D c t m G I' q ns fp => ⟨m, ns, fun h'' sb => ?_⟩
  obtain ⟨c0, c1, c2, c3, c4, c5⟩ := fp
  exact ⟨.ref D, G, I'.turned (t' := t.toks) (fun b o hb e => (sb.2 b hb).trans e) c0 c1 c3 c4 c5, rfl, q⟩
end
section
variable {K : PySem.W.Frag} {B H H' : Hp} {σ : L2.St} {δ : List Slot} {k : Res → Prop} {te ta : TE}
/-- the comprehension over ds -/
def DcP (K : PySem.W.Frag) (t : Bool) (ds : List PyData) (g : TG) (tt : TT) (tk tv : TE) (vs : List Nat) (δ : List Slot) (k : Res → Prop) : Prop :=
  ∃ I : Nat → List (PyData × PyData) → Prop, I 0 [] ∧ ds.length ≤ 1000000 ∧
    (∀ i d acc, ds[i]? = some d → I i acc → GE K g (.dat d) (wipeS δ vs) (fun j => j ∈ vs) fun δ' => EvT K tt δ' fun b => Br b (EvC K tk δ' fun r => ∃ kd, r = .dat kd ∧ EvC K tv δ' fun r2 => ∃ vd es, r2 = .dat vd ∧ PutR t acc kd vd es ∧ I (i + 1) es) (I (i + 1) acc)) ∧
    ∀ out, I ds.length out → k (.freshD t out)
def emp (t : Bool) : HO := if t then .dT [] else .dK []
theorem emp_ok {t : Bool} : Emp (emp t) := by cases t <;> constructor
theorem emp_is {t : Bool} : DicIs K H t (emp t) [] := by
  cases t
  · exact .k (kds := []) .nil
  · exact .t (kds := []) .nil
theorem ec_dcA {t : Bool} {wi : TI} {g : TG} {tt : TT} {tk tv : TE} {vs : List Nat} (h : ItE K wi δ fun ds => DcP K t ds g tt tk tv vs δ k) : EvC K (tDcA (emp t) wi g tt tk tv vs) δ k := by
  intro B H σ R Q q
  refine h B H σ R _ fun J H1 ds e ⟨Y, w, y⟩ dp => ?_
  obtain ⟨I, i0, hz, turn, fin⟩ := dp
  intro D hD
  refine ⟨fun j m Hb => j + m = ds.length ∧ ∃ acc ob, I j acc ∧ Hb D = some ob ∧ DicIs K Hb t ob acc ∧ Same H1 Hb, ⟨ds.length, by omega, [], emp t, i0, upd_same, emp_is, same_new hD⟩, ?_⟩
  rintro j m Hb ⟨hjm, acc, ob, ij, hb, di, sm⟩
  by_cases hj : j < ds.length
  · refine .inr ⟨w.goes j Hb hj sm, fun Hc => ∃ acc ob, I (j + 1) acc ∧ Hc D = some ob ∧ DicIs K Hc t ob acc ∧ Same H1 Hc, fun Hc hc => ⟨m - 1, by omega, by omega, hc⟩, fun x Hc yl => ?_⟩
    obtain ⟨e2, d, hd, ix⟩ := y j Hb x Hc hj sm (w.yields j Hb x Hc hj sm yl)
    have R' : Rel K B Hb (L2.wipe σ vs) (wipeS δ vs) := (R.grow (e.trans sm)).wipe vs
    refine turn j d acc hd ij B Hb Hc _ x R' e2 ix _ fun σ3 δ3 R3 hl3 hw3 et => ⟨wipe_eq hl3 hw3, et B Hc σ3 R3 _ fun b H3 e3 br => ?_⟩
    have s3 := (sm.trans e2).trans e3
    have hb3 : H3 D = some ob := e3.at_ _ _ (e2.at_ _ _ hb di.free.2) di.free.2
    have di3 := di.per (per_same (e2.trans e3))
    cases b with
    | true =>
      rw [if_pos rfl]
      refine br.1 rfl B H3 σ3 (R3.grow e3) _ fun v H4 r e4 o ⟨kd, hr, ev⟩ => ?_
      subst hr
      refine ev B H4 σ3 (R3.grow (e3.trans e4)) _ fun v2 H5 r2 e5 o2 ⟨vd, es, hr2, pr, inx⟩ => ?_
      subst hr2
      have e45 := e4.trans e5
      have hb5 := e45.at_ _ _ hb3 di.free.2
      have di5 := di3.per (per_same e45)
      obtain ⟨o', dp, di6⟩ := dput_of di5 hb5 (Im.to (show Im K H4 v kd from o) (per_same e5)) (show Im K H5 v2 vd from o2) pr
      exact ⟨_, dp, es, o', inx, upd_same, di6.per (per_upd hb5 di.free.1), same_mut (s3.trans e45) hD hb5 di.notl⟩
    | false =>
      rw [if_neg Bool.false_ne_true]
      exact ⟨acc, ob, br.2 rfl, hb3, di3, s3⟩
  · have hje : j = ds.length := by omega
    subst hje
    exact .inl ⟨w.stops Hb sm, q _ Hb _ (e.trans sm) (rFreshD (e.free hD) hb di) (fin acc ij)⟩

/-! ### what a dict holds, in its order -/
def KeysAre (H : Hp) : HO → List V → Prop
  | .dK kvs, vs => vs = kvs.map fun p => kV p.1
  | .dT kvs, vs => vs.length = kvs.length ∧ ∀ (i : Nat) (k : List Key) (x : V), kvs[i]? = some (k, x) → ∃ b, vs[i]? = some (.ref b) ∧ H b = some (.tup (k.map kV))
  | _, _ => False
def ValsAre : HO → List V → Prop
  | .dK kvs, ws => ws = kvs.map (·.2)
  | .dT kvs, ws => ws = kvs.map (·.2)
  | _, _ => False
theorem kp_keys {κ : Type} : ∀ {kvs : List (κ × V)} {kds : List (κ × PyData)}, KP K H kvs kds → kvs.map (·.1) = kds.map (·.1)
  | _, _, .nil => rfl
  | _, _, .cons h t => by rw [List.map_cons, List.map_cons, h.1, kp_keys t]
theorem kp_vals {κ : Type} : ∀ {kvs : List (κ × V)} {kds : List (κ × PyData)}, KP K H kvs kds → ImAll K H (kvs.map (·.2)) (kds.map (·.2))
  | _, _, .nil => .nil
  | _, _, .cons h t => .cons h.2 (kp_vals t)
theorem keys_im {t : Bool} {o : HO} {ds : List (PyData × PyData)} {vs : List V} (d : DicIs K H t o ds) (h : KeysAre H o vs) : ImAll K H vs (ds.map (·.1)) := by
  cases d with
  | @k kvs kds kp =>
    have h' : vs = kvs.map fun p => kV p.1 := h
    subst h'
    have e1 : (kvD kds).map (·.1) = (kds.map (·.1)).map kD := by unfold kvD; rw [List.map_map, List.map_map]; rfl
    have e2 : (kvs.map fun p => kV p.1) = (kds.map (·.1)).map kV := by rw [← kp_keys kp, List.map_map]; rfl
    rw [e1, e2]
    exact im_kDsr _
  | @t kvs kds kp =>
    obtain ⟨hl, hg⟩ := (show vs.length = kvs.length ∧ _ from h)
    have e1 : (tvD kds).map (·.1) = (kds.map (·.1)).map tD := by unfold tvD; rw [List.map_map, List.map_map]; rfl
    rw [e1]
    have hlen : vs.length = ((kds.map (·.1)).map tD).length := by rw [hl, kp.len, List.length_map, List.length_map]
    refine im_of_get _ _ hlen fun j v hj => ?_
    have hlt : j < kvs.length := by rw [← hl]; exact (List.getElem?_eq_some_iff.mp hj).1
    obtain ⟨b, h1, h2⟩ := hg j kvs[j].1 kvs[j].2 (by rw [List.getElem?_eq_getElem hlt])
    rw [hj] at h1
    cases h1
    refine ⟨tD kvs[j].1, ?_, .tup (SqT.of h2) (im_kDsr _) (.inr h2)⟩
    rw [← kp_keys kp, List.getElem?_map, List.getElem?_map, List.getElem?_eq_getElem hlt]
    rfl
theorem vals_im {t : Bool} {o : HO} {ds : List (PyData × PyData)} {ws : List V} (d : DicIs K H t o ds) (h : ValsAre o ws) : ImAll K H ws (ds.map (·.2)) := by
  cases d with
  | @k kvs kds kp =>
    have h' : ws = kvs.map (·.2) := h
    subst h'
    have e1 : (kvD kds).map (·.2) = kds.map (·.2) := by unfold kvD; rw [List.map_map]; rfl
    rw [e1]
    exact kp_vals kp
  | @t kvs kds kp =>
    have h' : ws = kvs.map (·.2) := h
    subst h'
    have e1 : (tvD kds).map (·.2) = kds.map (·.2) := by unfold tvD; rw [List.map_map]; rfl
    rw [e1]
    exact kp_vals kp
end
section
variable {X : Cx} {pins : List (Addr × Obj)} {σ : L2.St} {H : Hp} {s : Shared}
def IsDic (o : HO) : Prop := (∃ kvs, o = .dK kvs) ∨ ∃ kvs, o = .dT kvs
theorem DicIs.isDic {K : PySem.W.Frag} {t : Bool} {o : HO} {ds : List (PyData × PyData)} (d : DicIs K H t o ds) : IsDic o := by
  cases d
  · exact .inl ⟨_, rfl⟩
  · exact .inr ⟨_, rfl⟩
structure RawIs (H : Hp) (h : Heap) (p : Addr) (o : HO) (es : Array DictEntry) (ep : Nat) (vs ws : List V) : Prop where
  low : (p == sysModules) = false
  raw : h.DictRaw p es ep
  few : es.size ≤ sizeLine
  keys : KeysAre H o vs
  vals : ValsAre o ws
  nk : vs.length = es.size
  nv : ws.length = es.size
  key : ∀ i (hi : i < es.size), ∃ v, vs[i]? = some v ∧ RelV v es[i].key
  val : ∀ i (hi : i < es.size), ∃ w, ws[i]? = some w ∧ RelV w es[i].val
theorem raw_of {p : Addr} {o : HO} (I : Inv X pins σ H s) (rd : Rd H p o) (hd : IsDic o) : ∃ es ep vs ws, RawIs H s.heap p o es ep vs ws := by
  rcases hd with ⟨kvs, rfl⟩ | ⟨kvs, rfl⟩
  · obtain ⟨z, lo, us, kv, dd⟩ := dk_rd I.hok rd
    obtain ⟨es, ep, raw, sz, at_⟩ := dd.raw
    have l1 : kvs.length = us.length := Paired.length kv
    have g : ∀ i (hi : i < es.size), ∃ q u, kvs[i]? = some q ∧ us[i]? = some u ∧ q.1 = u.1 ∧ RelV q.2 u.2 ∧ RelV (kV q.1) es[i].key ∧ es[i].val = u.2 := fun i hi => by
      have h1 : i < kvs.length := by omega
      obtain ⟨u, hu, e1, e2⟩ := paired_get kv (List.getElem?_eq_getElem h1)
      obtain ⟨c1, c2⟩ := at_ i hi u.1 u.2 hu
      exact ⟨kvs[i], u, List.getElem?_eq_getElem h1, hu, e1, e2, by rw [e1]; exact relV_key c1, c2⟩
    refine ⟨es, ep, kvs.map fun q => kV q.1, kvs.map (·.2), lo, raw, by omega, (show KeysAre H (.dK kvs) (kvs.map fun q => kV q.1) from rfl), (show ValsAre (.dK kvs) (kvs.map (·.2)) from rfl), by rw [List.length_map]; omega, by rw [List.length_map]; omega, fun i hi => ?_, fun i hi => ?_⟩
    · obtain ⟨q, u, a1, a2, a3, a4, a5, a6⟩ := g i hi
      exact ⟨kV q.1, by rw [List.getElem?_map, a1]; rfl, a5⟩
    · obtain ⟨q, u, a1, a2, a3, a4, a5, a6⟩ := g i hi
      exact ⟨q.2, by rw [List.getElem?_map, a1]; rfl, by rw [a6]; exact a4⟩
  · obtain ⟨z, lo, xs, kt, dd⟩ := dt_rd I.hok rd
    obtain ⟨es, ep, raw, sz, at_⟩ := dd.raw
    have l1 : kvs.length = xs.length := Paired.length kt
    refine ⟨es, ep, xs.map fun q => .ref q.2.1, kvs.map (·.2), lo, raw, by omega, ⟨by rw [List.length_map, l1], fun i k x e => ?_⟩, (show ValsAre (.dT kvs) (kvs.map (·.2)) from rfl), by rw [List.length_map]; omega, by rw [List.length_map]; omega, fun i hi => ?_, fun i hi => ?_⟩
    · obtain ⟨q, hq, e1, e2, e3⟩ := paired_get kt e
      exact ⟨q.2.1, by rw [List.getElem?_map, hq]; rfl, e2⟩
    · obtain ⟨q, a1, a2, a3, a4⟩ := at_ i hi
      exact ⟨.ref q.2.1, by rw [List.getElem?_map, a1]; rfl, a2⟩
    · obtain ⟨q, a1, a2, a3, a4⟩ := at_ i hi
      have h1 : i < kvs.length := by omega
      obtain ⟨q', hq', e1, e2, e3⟩ := paired_get kt (List.getElem?_eq_getElem h1)
      rw [a1] at hq'
      cases hq'
      exact ⟨kvs[i].2, by rw [List.getElem?_map, List.getElem?_eq_getElem h1]; rfl, by rw [a3]; exact e3⟩
theorem vals_of_items {es : Array DictEntry} {f : DictEntry → Value} {vs : List V} {acc : Array Value} (nk : vs.length = es.size) (key : ∀ i (hi : i < es.size), ∃ v, vs[i]? = some v ∧ RelV v (f es[i])) (h : ItemsOf (fun i v => ∃ hi : i < es.size, v = f es[i]) acc es.size) : Vals vs acc.toList := by
  refine vals_pt (by rw [nk, Array.length_toList, h.1]) fun i v u hv hu => ?_
  obtain ⟨hi, rfl⟩ := h.2 i u (by rw [← Array.getElem?_toList]; exact hu)
  obtain ⟨v', h1, h2⟩ := key i hi
  rw [hv] at h1
  cases h1
  exact h2
end
/-! ### sorted(d), list(d) -/
section
variable {prog : Program} {w : World} {A : Around} {E : Value → Shared → Prop} {s : Shared} {β : Type}
theorem sorted_dic {d : Addr} {es : Array DictEntry} {ep : Nat} {vs : List Value} {bs : List β} {enc : β → PyData} {R : Value → β → Prop} {Q : Value → Shared → Prop} (hh : A.handled = none) (lo : (d == sysModules) = false) (raw : s.heap.DictRaw d es ep) (few : es.size ≤ sizeLine)
    (hvs : vs = es.toList.map (·.key)) (e : PySem.W.EachIs R vs bs) (er : PySem.W.EachIs (fun v b => ∃ as, Reads s.heap v (enc b) as) vs bs) (hal : PySem.W.AllAlike (bs.map enc)) (hk : PySem.W.Sortable (bs.map enc)) (hu : ∀ b, b ∈ bs → A.units + 2 + (enc b).depth < cLine)
    (h : ∀ (p : Addr) (h' : Heap) (m tk : Nat) (out : List Value), s.heap.get? p = none → (∀ b u, s.heap.get? b = some u → h'.get? b = some u) → h'.get? p = some (seqObj "list" out.toArray m) → PySem.W.EachIs R out (bs.mergeSort (PySem.W.dataLe false enc)) → Q (.ref p) { s with heap := h', toks := tk }) :
    wpAny (model prog w) A (call (.builtin "sorted") [.ref d]) Q E s := by
  have hL : vs.length ≤ sizeLine := by rw [hvs, List.length_map, Array.length_toList]; exact few
  refine call_function_entry_kw kind_sorted plain_sorted entry_sorted (args_sorted1 _) ?_
  unfold Builtin.«sorted»
  refine wpAny_bind (m := checkCount "sorted" 1 1 _) (wpAny_pure (wpAny_bind (PySem.W.kdu_collect (A := A.in1) (KdlSrc.rawDict (es := es) (ep := ep) lo) hh raw few fun h1 tk acc k1 hacc => ?_)))
  have eacc : acc.toList = vs := by
    rw [hvs]
    refine List.ext_getElem (by rw [Array.length_toList, hacc.1, List.length_map, Array.length_toList]) fun i hi hj => ?_
    have hi' : i < acc.size := by rw [← Array.length_toList]; exact hi
    obtain ⟨hie, q⟩ := hacc.2 i acc[i] (Array.getElem?_eq_getElem hi')
    rw [Array.getElem_toList, List.getElem_map, Array.getElem_toList, q]
  rw [eacc]
  refine wpAny_bind (wpAny_newList ?_ hL)
  have hat : (h1.push (seqObj "list" vs.toArray 0)).get? h1.objs.size = some (seqObj "list" vs.toArray 0) := Heap.get?_push_size _ rfl
  show wpAny _ _ _ _ _ { s with heap := h1.push (seqObj "list" vs.toArray 0), toks := tk }
  have k2 : ∀ b u, s.heap.get? b = some u → (PySem.W.sortingHeap (h1.push (seqObj "list" vs.toArray 0)) h1.objs.size vs).get? b = some u := fun b u q =>
    PySem.W.sortingHeap_old (Nat.ne_of_lt (Heap.lt_size (k1 _ _ q))) (Heap.get?_push_of_some _ (k1 _ _ q))
  have er' : PySem.W.EachIs (fun v b => ∃ as, Reads (PySem.W.sortingHeap (h1.push (seqObj "list" vs.toArray 0)) h1.objs.size vs) v (enc b) as) vs bs := er.mono fun _ _ ⟨as, r⟩ => ⟨as, PyProof.Rows.Reads.keeps k2 r⟩
  refine wpAny_bind (wpAny_holding (wpAny_call_entry_kw slot_list_sort ⟨_, hat, rfl⟩ entry_list_sort ?go (args_list_sort _)))
  case go =>
    refine PySem.W.list_sort_vals (s := { s with heap := h1.push (seqObj "list" vs.toArray 0), toks := tk }) (A := A.in1.in1) hat
      (PySem.W.SortsAt.data (s := { s with heap := PySem.W.sortingHeap (h1.push (seqObj "list" vs.toArray 0)) h1.objs.size vs, toks := tk }) (PySem.W.each_map (R := fun v d => ∃ as, Reads (PySem.W.sortingHeap (h1.push (seqObj "list" vs.toArray 0)) h1.objs.size vs) v d as) enc er') hal hk (PySem.W.bound_map hu)) hL ?_
    refine ⟨_, rfl, wpAny_pure ⟨_, rfl, ?_⟩⟩
    obtain ⟨m, hm⟩ := sortedHeap_at (vs := vs) (out := (PySem.W.sortVals (PySem.W.dataKind (PySem.W.sortingHeap (h1.push (seqObj "list" vs.toArray 0)) h1.objs.size vs) (bs.map enc)) false vs vs).toArray) hat
    refine h _ _ m tk _ ?_ (fun b u q => ?_) hm (PySem.W.sortVals_data false e er' hal)
    · cases hz : s.heap.get? h1.objs.size with
      | none => rfl
      | some u => exact absurd (Heap.lt_size (k1 _ _ hz)) (Nat.lt_irrefl _)
    · have q1 := k1 _ _ q
      have lt1 := Heap.lt_size q1
      have q2 : (h1.push (seqObj "list" vs.toArray 0)).get? b = some u := Heap.get?_push_of_some _ q1
      rw [sortedHeap_old (Nat.ne_of_lt lt1) (Heap.lt_size q2)]
      exact q2
end
/-- sorted(d), d a dict -/
def rSortDic (K : PySem.W.Frag) : List V → Hp → VK → Prop := fun us H Q => ∃ (p : Addr) (o : HO) (ds : List PyData), us = [.ref p] ∧ Rd H p o ∧ IsDic o ∧ PySem.W.AllAlike ds ∧ PySem.W.Sortable ds ∧ (∀ d ∈ ds, d.depth ≤ 60) ∧ (∀ vs, KeysAre H o vs → DpAll K H vs ds) ∧
  ∀ (vs : List V) (zs : List (V × PyData)) (q : Addr), KeysAre H o vs → zs.Perm (vs.zip ds) → zs.map (·.2) = ds.mergeSort (PySem.W.dataLe false id) → H q = none → Q (.ref q) (upd H q (.lst (zs.map (·.1))))
theorem cr_sortDic {X : Cx} (hc : X.calm = true) (hu : X.A.units + 64 < cLine) : CallR X (.builtin "sorted") (rSortDic X.K) := by
  intro pins s σ H us0 us Q I r h
  obtain ⟨p, o, ds, rfl, rd, isd, al, so, dd, dp, q⟩ := h
  obtain ⟨u, rfl, ru⟩ := vals1 r
  obtain rfl : u = Value.ref p := ru
  obtain ⟨es, ep, vs, ws, x⟩ := raw_of I rd isd
  have dpv := dp vs x.keys
  have hl : vs.length = ds.length := dpAll_len dpv
  have e2 : (vs.zip ds).map (·.2) = ds := List.map_snd_zip (by omega)
  have rv : Vals vs (es.toList.map (·.key)) := by
    refine vals_pt (by rw [x.nk, List.length_map, Array.length_toList]) fun i v u hv hu => ?_
    have hi : i < es.size := by rw [← x.nk]; exact (List.getElem?_eq_some_iff.mp hv).1
    obtain ⟨v', h1, h2⟩ := x.key i hi
    rw [hv] at h1
    cases h1
    rw [List.getElem?_map, Array.getElem?_toList, Array.getElem?_eq_getElem hi] at hu
    cases hu
    exact h2
  have al' : PySem.W.AllAlike ((vs.zip ds).map fun b => b.2) := by rw [e2]; exact al
  have so' : PySem.W.Sortable ((vs.zip ds).map fun b => b.2) := by rw [e2]; exact so
  have hu' : ∀ b, b ∈ vs.zip ds → X.A.units + 2 + (b.2).depth < cLine := fun b hb => by
    have := dd b.2 (List.of_mem_zip hb).2
    omega
  refine sorted_dic (enc := fun b : V × PyData => b.2) (I.ok.hd hc) x.low x.raw x.few rfl (each_rel rv hl) (each_reads I rv dpv) al' so' hu' fun q' h' m tk out hn k hp ee => ?_
  have pm : ((vs.zip ds).mergeSort (PySem.W.dataLe false fun b => b.2)).Perm (vs.zip ds) := List.mergeSort_perm _ _
  have es' : ((vs.zip ds).mergeSort (PySem.W.dataLe false fun b => b.2)).map (·.2) = ds.mergeSort (PySem.W.dataLe false id) :=
    (PySem.W.sort_maps (r := PySem.W.dataLe false fun b : V × PyData => b.2) (s := PySem.W.dataLe false id) (fun b : V × PyData => b.2) (fun _ _ _ _ => rfl)).trans (by rw [e2])
  have hH : H q' = none := I.hok.gone hn
  refine ⟨.ref q', _, I.laidN (o := .lst (((vs.zip ds).mergeSort (PySem.W.dataLe false fun b => b.2)).map (·.1))) (t' := tk) k hn hH ⟨?_, out, m, vals_of_each ee, hp⟩, rfl, q _ _ q' x.keys pm es' hH⟩
  rw [List.length_map, pm.length_eq, List.length_zip, x.nk]
  have := x.few
  omega
/-- list(d) -/
def rListDic : List V → Hp → VK → Prop := fun us H Q => ∃ (p : Addr) (o : HO), us = [.ref p] ∧ Rd H p o ∧ IsDic o ∧ ∀ (vs : List V) (l : Addr), KeysAre H o vs → H l = none → Q (.ref l) (upd H l (.lst vs))
theorem cr_listDic {X : Cx} (hc : X.calm = true) : CallR X (.type "list") rListDic := by
  intro pins s σ H us0 us Q I r h
  obtain ⟨p, o, rfl, rd, isd, q⟩ := h
  obtain ⟨u, rfl, ru⟩ := vals1 r
  obtain rfl : u = Value.ref p := ru
  obtain ⟨es, ep, vs, ws, x⟩ := raw_of I rd isd
  refine PySem.W.kdl_call (KdlSrc.rawDict (es := es) (ep := ep) x.low) (I.ok.hd hc) x.raw x.few fun h' tk acc c k hS hacc => ?_
  have hn : H s.heap.objs.size = none := I.hok.fresh (Nat.le_refl _)
  have gone : s.heap.get? s.heap.objs.size = none := by
    cases hz : s.heap.get? s.heap.objs.size with
    | none => rfl
    | some o => exact absurd (Heap.lt_size hz) (Nat.lt_irrefl _)
  refine ⟨.ref s.heap.objs.size, _, I.laidN (o := .lst vs) (t' := tk) k gone hn ⟨by rw [x.nk]; exact x.few, acc.toList, c, vals_of_items (f := (·.key)) x.nk x.key hacc, by rw [Array.toArray_toList]; exact hS⟩, rfl, q vs _ x.keys hn⟩
section
variable {K : PySem.W.Frag} {δ : List Slot} {k : Res → Prop} {te : TE}
theorem qSortDic {X : Cx} (K : PySem.W.Frag) (hu : X.A.units + 64 < cLine) (h : X.K = K := by rfl) (hc : X.calm = true := by rfl) : CallR X (.builtin "sorted") (rSortDic K) := by subst h; exact cr_sortDic hc hu
theorem qListDic {X : Cx} (hc : X.calm = true := by rfl) : CallR X (.type "list") rListDic := cr_listDic hc
inductive SortDicP : List Res → (Res → Prop) → Prop
  | mk {x : Res} {t : Bool} {ds : List (PyData × PyData)} {k : Res → Prop} : x.dic = some (t, ds) → PySem.W.AllAlike (ds.map (·.1)) → PySem.W.Sortable (ds.map (·.1)) → (∀ d ∈ ds.map (·.1), d.depth ≤ 60) → k (.fresh ((ds.map (·.1)).mergeSort (PySem.W.dataLe false id))) → SortDicP [x] k
theorem cbSortDic : CbOk K (rSortDic K) SortDicP := by
  intro B H H1 vs rs k Q e0 e1 o p q
  cases p with
  | mk hx al so dd g =>
    cases o with
    | cons o1 o2 =>
      cases o2
      obtain ⟨p, ob, rfl, rd, di⟩ := o1.dicR (e0.trans e1) hx
      refine ⟨p, ob, _, rfl, rd, di.isDic, al, so, dd, fun us hk => (keys_im di hk).toDp (nd_of_alikes _ fun d hd => al d hd d hd), fun us zs q' hk pm hz hn => ?_⟩
      have iz : ImAll K H1 (zs.map (·.1)) (zs.map (·.2)) := im_of_zip zs fun z hz => im_zip (keys_im di hk) z (pm.mem_iff.mp hz)
      rw [hz] at iz
      exact q _ _ _ (same_new hn) (rFreshN e1 hn iz) g
inductive ListDicP : List Res → (Res → Prop) → Prop
  | mk {x : Res} {t : Bool} {ds : List (PyData × PyData)} {k : Res → Prop} : x.dic = some (t, ds) → k (.fresh (ds.map (·.1))) → ListDicP [x] k
theorem cbListDic : CbOk K rListDic ListDicP := by
  intro B H H1 vs rs k Q e0 e1 o p q
  cases p with
  | mk hx g =>
    cases o with
    | cons o1 o2 =>
      cases o2
      obtain ⟨p, ob, rfl, rd, di⟩ := o1.dicR (e0.trans e1) hx
      exact ⟨p, ob, rfl, rd, di.isDic, fun us l hk hn => q _ _ _ (same_new hn) (rFreshN e1 hn (keys_im di hk)) g⟩
/-! ### a dict that stands, walked -/
theorem im_dic {H : Hp} {v : V} {ds : List (PyData × PyData)} (h : Im K H v (.dict ds)) : ∃ d o kvs kds, v = .ref d ∧ H d = some (.frz o (.dK kvs)) ∧ KP K H kvs kds ∧ ds = kvD kds := by
  cases h with
  | dic kds h1 h2 h3 =>
    obtain ⟨o, h1⟩ := h1
    exact ⟨_, o, _, kds, rfl, h1, h2.kp, h3⟩
theorem kp_get {κ : Type} {H : Hp} {kvs : List (κ × V)} {kds : List (κ × PyData)} (h : KP K H kvs kds) {i : Nat} {q : κ × V} (hi : kvs[i]? = some q) : ∃ d, kds[i]? = some (q.1, d) ∧ Im K H q.2 d := by
  obtain ⟨r, hr, e1, e2⟩ := paired_get h hi
  exact ⟨r.2, by rw [hr, e1], e2⟩
theorem walk_dk {G0 : Hp} {d : Addr} {o : Obj} {kvs : List (Key × V)} {kds : List (Key × PyData)} (h : G0 d = some (.frz o (.dK kvs))) (kp : KP K G0 kvs kds) : WalkOk K G0 (Itk d o kvs) (kds.map fun p => kD p.1) := by
  refine ⟨fun i H x H' => H' = H ∧ ∃ k v, kvs[i]? = some (k, v) ∧ x = kV k, ?_, fun i H x H' hi e y => ?_⟩
  · have w := (walk_keys (d := d) (o := o) (kvs := kvs)).mono (G' := fun H => Same G0 H) (fun H e => e.at_ _ _ h) (fun i H x H' _ _ y => y)
    rw [List.length_map, ← kp.len]
    exact w
  · obtain ⟨rfl, k, v, hk, rfl⟩ := y
    obtain ⟨d, hd, im⟩ := kp_get kp hk
    exact ⟨Same.refl _, kD k, by rw [List.getElem?_map, hd]; rfl, im_kDr k⟩
theorem walk_dv {G0 : Hp} {d : Addr} {o : Obj} {kvs : List (Key × V)} {kds : List (Key × PyData)} (h : G0 d = some (.frz o (.dK kvs))) (kp : KP K G0 kvs kds) : WalkOk K G0 (Itd d o kvs) (kds.map (·.2)) := by
  refine ⟨fun i H x H' => H' = H ∧ ∃ k, kvs[i]? = some (k, x), ?_, fun i H x H' hi e y => ?_⟩
  · have w := (walk_values (d := d) (o := o) (kvs := kvs)).mono (G' := fun H => Same G0 H) (fun H e => e.at_ _ _ h) (fun i H x H' _ _ y => y)
    rw [List.length_map, ← kp.len]
    exact w
  · obtain ⟨rfl, k, hk⟩ := y
    obtain ⟨d, hd, im⟩ := kp_get kp hk
    exact ⟨Same.refl _, d, by rw [List.getElem?_map, hd]; rfl, im.to (per_same e)⟩
theorem walk_di {G0 : Hp} {d : Addr} {o : Obj} {kvs : List (Key × V)} {kds : List (Key × PyData)} (h : G0 d = some (.frz o (.dK kvs))) (kp : KP K G0 kvs kds) : WalkOk K G0 (Iti d o kvs) (kds.map fun p => .tuple [kD p.1, p.2]) := by
  refine ⟨YPair (fun i => kvs[i]?.map fun kv => kV kv.1) (fun i => kvs[i]?.map Prod.snd), ?_, fun i H x H' hi e y => ?_⟩
  · have w := (walk_items (d := d) (o := o) (kvs := kvs)).mono (G' := fun H => Same G0 H) (fun H e => e.at_ _ _ h) (fun i H x H' _ _ y => y)
    rw [List.length_map, ← kp.len]
    exact w
  · obtain ⟨T, a, b, rfl, hT, rfl, h1, h2⟩ := y
    obtain ⟨q, hq, rfl⟩ := Option.map_eq_some_iff.mp h1
    have h2' : Option.map Prod.snd kvs[i]? = some b := h2
    rw [hq] at h2'
    cases h2'
    obtain ⟨d, hd, im⟩ := kp_get kp hq
    have sm : Same H (upd H T (.tup [kV q.1, q.2])) := same_new hT
    exact ⟨sm, .tuple [kD q.1, d], by rw [List.getElem?_map, hd]; rfl, .tup (SqT.of upd_same) (.cons (im_kDr q.1) (.cons (im.to (per_same (e.trans sm))) .nil)) (.inr upd_same)⟩
theorem kv1 {kds : List (Key × PyData)} : (kvD kds).map (·.1) = kds.map fun p => kD p.1 := by unfold kvD; rw [List.map_map]; rfl
theorem kv2 {kds : List (Key × PyData)} : (kvD kds).map (·.2) = kds.map (·.2) := by unfold kvD; rw [List.map_map]; rfl
theorem kv3 {kds : List (Key × PyData)} : ((kvD kds).map fun p => PyData.tuple [p.1, p.2]) = kds.map fun p => .tuple [kD p.1, p.2] := by unfold kvD; rw [List.map_map]; rfl
theorem itl_keys {k : List PyData → Prop} (h : EvC K te δ fun x => ∃ ds, x = .dat (.dict ds) ∧ k (ds.map (·.1))) : ItL K (iKeys te) δ k := by
  intro B H σ R Rr q
  refine h B H σ R _ fun v H1 x e o ⟨ds, hx, hk⟩ => ?_
  subst hx
  obtain ⟨d, ob, kvs, kds, rfl, h1, kp, rfl⟩ := im_dic o
  rw [kv1] at hk
  exact ⟨d, ob, rfl, .inl ⟨kvs, h1, q _ H1 _ e (walk_dk (core_at h1 rfl) (kp.per core_per)) hk⟩⟩
theorem itl_vals {k : List PyData → Prop} (h : EvC K te δ fun x => ∃ ds, x = .dat (.dict ds) ∧ k (ds.map (·.2))) : ItL K (iVals te) δ k := by
  intro B H σ R Rr q
  refine h B H σ R _ fun v H1 x e o ⟨ds, hx, hk⟩ => ?_
  subst hx
  obtain ⟨d, ob, kvs, kds, rfl, h1, kp, rfl⟩ := im_dic o
  rw [kv2] at hk
  exact ⟨d, ob, kvs, rfl, h1, q _ H1 _ e (walk_dv (core_at h1 rfl) (kp.per core_per)) hk⟩
theorem itl_items {k : List PyData → Prop} (h : EvC K te δ fun x => ∃ ds, x = .dat (.dict ds) ∧ k (ds.map fun p => PyData.tuple [p.1, p.2])) : ItL K (iItems te) δ k := by
  intro B H σ R Rr q
  refine h B H σ R _ fun v H1 x e o ⟨ds, hx, hk⟩ => ?_
  subst hx
  obtain ⟨d, ob, kvs, kds, rfl, h1, kp, rfl⟩ := im_dic o
  rw [kv3] at hk
  exact ⟨d, ob, kvs, rfl, h1, q _ H1 _ e (walk_di (core_at h1 rfl) (kp.per core_per)) hk⟩
theorem ite_keys {k : List PyData → Prop} (h : EvC K te δ fun x => ∃ ds, x = .dat (.dict ds) ∧ k (ds.map (·.1))) : ItE K (iKeys te) δ k := (itl_keys h).toE
theorem ite_vals {k : List PyData → Prop} (h : EvC K te δ fun x => ∃ ds, x = .dat (.dict ds) ∧ k (ds.map (·.2))) : ItE K (iVals te) δ k := (itl_vals h).toE
theorem ite_items {k : List PyData → Prop} (h : EvC K te δ fun x => ∃ ds, x = .dat (.dict ds) ∧ k (ds.map fun p => PyData.tuple [p.1, p.2])) : ItE K (iItems te) δ k := (itl_items h).toE
/-! ### d.get(y), d.get(y, z) -/
theorem isD_of {H : Hp} {p : Addr} {o : HO} (rd : Rd H p o) (h : IsDic o) : IsD H p := by
  rcases h with ⟨kvs, rfl⟩ | ⟨kvs, rfl⟩
  · exact .inl ⟨kvs, rd⟩
  · exact .inr ⟨kvs, rd⟩
theorem rd_same {H H' : Hp} {p : Addr} {o : HO} (e : Same H H') (k : isTbl o = false) (h : Rd H p o) : Rd H' p o := by
  rcases h with h | ⟨ob, h⟩
  · exact .inl (e.at_ _ _ h k)
  · exact .inr ⟨ob, e.at_ _ _ h⟩
theorem ec_get1 {ty : TE} (h : EvC K te δ fun x => ∃ ds, x.dic = some (false, ds) ∧ EvC K ty δ fun y => ∃ key r, y = .dat key ∧ KeyR false ds key r ∧ k (.dat (r.getD .none))) : EvC K (tDGet1 te ty) δ k := by
  intro B H σ R Q q
  refine h B H σ R _ fun v H1 x e o ⟨ds, hx, g⟩ => ?_
  obtain ⟨p, ob, rfl, rd, di⟩ := o.dicR (R.same.trans e) hx
  refine ⟨p, rfl, isD_of rd di.isDic, g B H1 σ (R.grow e) _ fun y H2 ry e2 oy ⟨key, r, hy, kr, hk⟩ => ?_⟩
  subst hy
  rcases dget_ofK (di.per (per_same e2)) (rd_same e2 di.free.2 rd) (show Im K H2 y key from oy) kr with ⟨rfl, dg⟩ | ⟨w, z, rfl, dg, im⟩
  · exact ⟨none, dg, q _ _ _ (e.trans e2) rNon hk⟩
  · exact ⟨some w, dg, q _ _ _ (e.trans e2) (rIm im) hk⟩
theorem ec_get2 {ty tz : TE} (h : EvC K te δ fun x => ∃ ds, x.dic = some (false, ds) ∧ EvC K ty δ fun y => ∃ key r, y = .dat key ∧ KeyR false ds key r ∧ EvC K tz δ fun z => ∃ dz, z = .dat dz ∧ k (.dat (r.getD dz))) : EvC K (tDGet2 te ty tz) δ k := by
  intro B H σ R Q q
  refine h B H σ R _ fun v H1 x e o ⟨ds, hx, g⟩ => ?_
  obtain ⟨p, ob, rfl, rd, di⟩ := o.dicR (R.same.trans e) hx
  refine ⟨p, rfl, isD_of rd di.isDic, g B H1 σ (R.grow e) _ fun y H2 ry e2 oy ⟨key, r, hy, kr, g2⟩ => ?_⟩
  subst hy
  refine g2 B H2 σ (R.grow (e.trans e2)) _ fun z H3 rz e3 oz ⟨dz, hz, hk⟩ => ?_
  subst hz
  have e23 := e2.trans e3
  rcases dget_ofK (di.per (per_same e23)) (rd_same e23 di.free.2 rd) (Im.to (show Im K H2 y key from oy) (per_same e3)) kr with ⟨rfl, dg⟩ | ⟨w, z, rfl, dg, im⟩
  · exact ⟨none, dg, q _ _ _ (e.trans e23) (rIm (show Im K H3 _ dz from oz)) hk⟩
  · exact ⟨some w, dg, q _ _ _ (e.trans e23) (rIm im) hk⟩
end
end Dl

/-! own layer: list(range(a, b, -1)) -/
namespace Dl
variable [LamT] [XR]
open PySem PySem.Spec L2 PyProof.Rows
section
variable {X : Cx}
def dnV (a b : Int) : List V := (List.range (a - b).toNat).map fun i => V.int (a - (i : Nat))
def tLstDn (ta : TA) : TE := fun σ H Q => ta σ H fun vs H1 => ∃ a b : Int, vs = [.int a, .int b, .int (-1)] ∧ (-(2 ^ 62) ≤ a ∧ a < 2 ^ 62 ∧ -(2 ^ 62) ≤ b ∧ b < 2 ^ 62 ∧ (a - b).toNat ≤ 2 ^ 24) ∧ ∀ q, H1 q = none → Q (.ref q) (upd H1 q (.lst (dnV a b)))
theorem pe_listDn {a b c : Expr} {ta : TA} {p p' pos pos' : Pos} (hml : X.mg "list" = none) (hmr : X.mg "range" = none) (ha : PA X [a, b, c] ta) (hc : X.calm = true := by rfl) (hgl : Gl X "list" := by rfl) (hgr : Gl X "range" := by rfl)
    (hs : starEach [a, b, c] X.env = (false, eval a X.env) :: starEach [b, c] X.env := by rfl) (hpl : (backTo pos' (starEach [b, c] X.env)).any (·.1) = false := by rfl)
    (na : starEach [.Call (.Name "range" p') [a, b, c] [] pos'] X.env = (false, eval (.Call (.Name "range" p') [a, b, c] [] pos') X.env) :: starEach [] X.env := by rfl) :
    PE X (.Call (.Name "list" p) [.Call (.Name "range" p') [a, b, c] [] pos'] [] pos) (tLstDn ta) := by
  refine ⟨fun pins s σ H Q I h => ?_⟩
  refine Call_ (ld_blt I hgl hml boot_list (PyProof.Rows.callWith_type1 (args_cons ?_ na) na))
  refine Call_ (ld_blt I hgr hmr boot_range (PyProof.Rows.callWith_type1 (thn (ha.run pos' pins s σ H _ I h) fun us s1 ⟨vs, H1, I1, r1, q1⟩ => ?_) hs hpl))
  obtain ⟨i, j, rfl, ⟨b1, b2, b3, b4, b5⟩, q⟩ := q1
  cases r1 with
  | cons r rr =>
    cases rr with
    | cons r' rr =>
      cases rr with
      | cons r'' rr =>
        cases rr
        obtain ⟨t, rfl⟩ := r
        obtain ⟨t', rfl⟩ := r'
        obtain ⟨t'', rfl⟩ := r''
        refine call_range_3 (by decide) ?_ (.inl (PyProof.noPylong_small (by decide)))
        have I2 : Inv X pins σ H1 { s1 with heap := s1.heap.push { cls := .type "range", data := .fields #[.int i t, .int j t', .int (-1) t''] } } := I1.kept (t' := s1.toks) fun b o e => Heap.get?_push_of_some _ e
        refine args_nil ?_
        refine call_list_range (n := (i - j).toNat) (I2.ok.hd hc) (IsRange.new ..) (PySem.W.small_down b1 b2 b3 b4) (PySem.W.rangeSize_downNat i j) b5 fun h' tk acc c' hk e' hi => ?_
        have nn := I2.hok.fresh (Nat.le_refl _)
        refine ⟨.ref _, _, I2.laid (o := .lst (dnV i j)) (t' := tk) hk (Nat.le_refl _) ⟨by unfold dnV; rw [List.length_map, List.length_range, sizeLine_eq]; omega, acc.toList, c', ?_, by rw [Array.toArray_toList]; exact e'⟩, rfl, q _ nn⟩
        have e2 : acc.toList.length = (i - j).toNat := by rw [Array.length_toList]; exact hi.1
        unfold dnV
        rw [← e2]
        refine vals_of_get acc.toList _ fun k u hj => ?_
        obtain ⟨tk', rfl⟩ := hi.2 k u (by rw [← hj, Array.getElem?_toList])
        exact ⟨tk', by congr 1; omega⟩
end
section
variable {K : PySem.W.Frag} {δ : List Slot} {k : Res → Prop} {ta : TA}
def dnD (a b : Int) : List PyData := (List.range (a - b).toNat).map fun i => .int (a - (i : Nat))
theorem dn_im {H : Hp} (a b : Int) : ImAll K H (dnV a b) (dnD a b) := by
  have e1 : dnV a b = ((List.range (a - b).toNat).map fun i : Nat => a - ((i : Nat) : Int)).map V.int := by unfold dnV; rw [List.map_map]; rfl
  have e2 : dnD a b = ((List.range (a - b).toNat).map fun i : Nat => a - ((i : Nat) : Int)).map PyData.int := by unfold dnD; rw [List.map_map]; rfl
  rw [e1, e2]
  exact ImAll.ints _
theorem ec_listDn (h : EvA K ta δ fun rs => ∃ a b : Int, rs = [.dat (.int a), .dat (.int b), .dat (.int (-1))] ∧ (-1000000 < a ∧ a < 1000000) ∧ (-1000000 < b ∧ b < 1000000) ∧ k (.fresh (dnD a b))) : EvC K (tLstDn ta) δ k := by
  intro B H σ R Q q
  refine h B H σ R _ fun vs H1 rs e o ⟨a, b, hr, h1, h2, hk⟩ => ?_
  subst hr
  cases o with
  | cons o1 o2 =>
    cases o2 with
    | cons o2 o3 =>
      cases o3 with
      | cons o3 o4 =>
        cases o1; cases o2; cases o3; cases o4
        exact ⟨a, b, rfl, ⟨by omega, by omega, by omega, by omega, by omega⟩, fun l hl => q _ _ _ (e.trans (same_new hl)) (rFreshN e hl (dn_im a b)) hk⟩
end

/-! ### a, b, c, d = x, y, z, u: the tuple itself is not kept, so that its parts may be owned lists -/
section
variable {K : PySem.W.Frag} {δ : List Slot} {nx : List Slot → Prop} {rt : Res → Prop} {bk ct : List Slot → Prop}
theorem sd_par4 {i j l m : Nat} {ta tb tc td : TE} (h : EvC K ta δ fun x => EvC K tb δ fun y => EvC K tc δ fun z => EvC K td δ fun u => nx ((((δ.set i (sto x)).set j (sto y)).set l (sto z)).set m (sto u))) :
    SD K (tAsg (tTup (tCons ta (tCons tb (tCons tc (tCons td tNil))))) (gTup K 4 (gCons (gName i) (gCons (gName j) (gCons (gName l) (gCons (gName m) gNil)))))) ⟨nx, rt, bk, ct⟩ δ := by
  intro B H σ R E C
  refine h B H σ R _ fun v1 H1 x e1 o1 g1 => ?_
  refine g1 B H1 σ (R.grow e1) _ fun v2 H2 y e2 o2 g2 => ?_
  refine g2 B H2 σ (R.grow (e1.trans e2)) _ fun v3 H3 z e3 o3 g3 => ?_
  refine g3 B H3 σ (R.grow ((e1.trans e2).trans e3)) _ fun v4 H4 u e4 o4 g4 => ?_
  refine ⟨by show 4 ≤ sizeLine; decide, fun p hp => ?_⟩
  have e5 : Same H4 (upd H4 p (.tup [v1, v2, v3, v4])) := same_new hp
  refine ⟨p, _, rfl, SqT.of upd_same, rfl, v1, _, rfl, v2, _, rfl, v3, _, rfl, v4, _, rfl, rfl, C.nx _ _ _ ?_ g4⟩
  refine Rel.set (H := H3) ?_ (e4.trans e5) (o4.grow e5) (((R.same.trans e1).trans e2).trans e3) fun _ _ => Same.refl H3
  refine Rel.set (H := H2) ?_ e3 o3 ((R.same.trans e1).trans e2) fun _ _ => Same.refl H2
  refine Rel.set (H := H1) ?_ e2 o2 (R.same.trans e1) fun _ _ => Same.refl H1
  exact R.set (i := i) e1 o1 R.same fun _ _ => Same.refl H
end
end Dl

/-! plain law of fractions: sizes -/
namespace Frac
variable [Dl.LamT]
open PySem L2 Dl
abbrev Fr := Int × Int
def fD (f : Fr) : PyData := .tuple [.int f.1, .int f.2]
def lowN (n d : Int) : Int := (if d < 0 then -1 else 1) * n / ((Nat.gcd n.natAbs d.natAbs : Nat) : Int)
def lowD (n d : Int) : Int := (if d < 0 then -d else d) / ((Nat.gcd n.natAbs d.natAbs : Nat) : Int)
def lowF (n d : Int) : Fr := (lowN n d, lowD n d)
/-- less than 2^a -/
def Lt (a : Nat) (i : Int) : Prop := i.natAbs < 2 ^ a
theorem Lt.mono {a b : Nat} {i : Int} (h : Lt a i) (hb : a ≤ b) : Lt b i := Nat.lt_of_lt_of_le h (Nat.pow_le_pow_right (by decide) hb)
theorem Lt.mul {a b : Nat} {i j : Int} (h : Lt a i) (g : Lt b j) : Lt (a + b) (i * j) := wide_lt h g
theorem Lt.add {a b m : Nat} {i j : Int} (h : Lt a i) (g : Lt b j) (h1 : a < m) (h2 : b < m) : Lt m (i + j) := by
  obtain ⟨m, rfl⟩ : ∃ q, m = q + 1 := ⟨m - 1, by omega⟩
  have e1 := h.mono (show a ≤ m by omega)
  have e2 := g.mono (show b ≤ m by omega)
  unfold Lt at *
  rw [Nat.pow_succ]
  omega
theorem Lt.neg {a : Nat} {i : Int} (h : Lt a i) : Lt a (-i) := by
  unfold Lt at *
  rw [Int.natAbs_neg]
  exact h
theorem Lt.sub {a b m : Nat} {i j : Int} (h : Lt a i) (g : Lt b j) (h1 : a < m) (h2 : b < m) : Lt m (i - j) := by
  rw [Int.sub_eq_add_neg]
  exact h.add g.neg h1 h2
theorem Lt.cm {a b : Nat} {i j : Int} (h : Lt a i) (g : Lt b j) (h0 : 0 < a) (h1 : 0 < b) (h2 : a + b ≤ 1000000) : CMulW i j := wide_mul h g h0 h1 h2
structure S (a : Nat) (f : Fr) : Prop where
  pos : 0 < f.2
  n : Lt a f.1
  d : Lt a f.2
theorem S.mono {a b : Nat} {f : Fr} (h : S a f) (hb : a ≤ b) : S b f := ⟨h.pos, h.n.mono hb, h.d.mono hb⟩
theorem low_ok {n d : Int} (hd : d ≠ 0) : (0 < lowD n d ∧ lowD n d ≤ d.natAbs) ∧ (lowN n d).natAbs ≤ n.natAbs := by
  have hg : 0 < Nat.gcd n.natAbs d.natAbs := Nat.gcd_pos_of_pos_right _ (by omega)
  have e : (if d < 0 then -d else d) = (d.natAbs : Int) := abs_nat d
  have hdv : Nat.gcd n.natAbs d.natAbs ∣ d.natAbs := Nat.gcd_dvd_right _ _
  unfold lowD lowN
  rw [e]
  refine ⟨⟨?_, ?_⟩, ?_⟩
  · rw [← Int.natCast_ediv]
    exact Int.natCast_pos.mpr (Nat.div_pos (Nat.le_of_dvd (by omega) hdv) hg)
  · rw [← Int.natCast_ediv]
    exact Int.ofNat_le.mpr (Nat.div_le_self _ _)
  · refine Nat.le_trans (Int.natAbs_ediv_le_natAbs _ _) ?_
    split <;> omega
theorem low_s {n d : Int} {a : Nat} (hd : d ≠ 0) (h1 : Lt a n) (h2 : Lt a d) : S a (lowF n d) := by
  obtain ⟨⟨p, q⟩, r⟩ := low_ok (n := n) hd
  refine ⟨p, Nat.lt_of_le_of_lt r h1, Nat.lt_of_le_of_lt ?_ h2⟩
  show (lowD n d).natAbs ≤ _
  omega
def addF (f g : Fr) : Fr := lowF (f.1 * g.2 + g.1 * f.2) (f.2 * g.2)
def lesF (f g : Fr) : Fr := lowF (f.1 * g.2 - g.1 * f.2) (f.2 * g.2)
def mulF (f g : Fr) : Fr := lowF (f.1 * g.1) (f.2 * g.2)
def divF (f g : Fr) : Fr := lowF (f.1 * g.2) (f.2 * g.1)
section
variable {a b m : Nat} {f g : Fr}
theorem pos2 (h : S a f) (k : S b g) : f.2 * g.2 ≠ 0 := Int.ne_of_gt (Int.mul_pos h.pos k.pos)
theorem S.add (h : S a f) (k : S b g) (hm : a + b < m) : S m (addF f g) := low_s (pos2 h k) ((h.n.mul k.d).add (k.n.mul h.d) hm (by omega)) ((h.d.mul k.d).mono (by omega))
theorem S.les (h : S a f) (k : S b g) (hm : a + b < m) : S m (lesF f g) := low_s (pos2 h k) ((h.n.mul k.d).sub (k.n.mul h.d) hm (by omega)) ((h.d.mul k.d).mono (by omega))
theorem S.mul (h : S a f) (k : S b g) (hm : a + b ≤ m) : S m (mulF f g) := low_s (pos2 h k) ((h.n.mul k.n).mono hm) ((h.d.mul k.d).mono hm)
theorem S.div (h : S a f) (k : S b g) (hk : g.1 ≠ 0) (hm : a + b ≤ m) : S m (divF f g) := low_s (Int.mul_ne_zero (Int.ne_of_gt h.pos) hk) ((h.n.mul k.d).mono hm) ((h.d.mul k.n).mono hm)
end
theorem lt_of {a : Nat} {i : Int} (h : i.natAbs < 2 ^ a) : Lt a i := h
theorem s_int {a : Nat} {i : Int} (ha : 0 < a) (h : Lt a i) : S a (i, 1) := ⟨(by decide : (0 : Int) < 1), h, by
  show (1 : Int).natAbs < 2 ^ a
  exact Nat.lt_of_lt_of_le (by decide : (1 : Int).natAbs < 2 ^ 1) (Nat.pow_le_pow_right (by decide) ha)⟩
theorem gcd_lt {a : Nat} {n d : Int} (hd : d ≠ 0) (hb : Lt a d) : 0 < Nat.gcd n.natAbs d.natAbs ∧ Nat.gcd n.natAbs d.natAbs < 2 ^ a :=
  ⟨Nat.gcd_pos_of_pos_right _ (by omega), Nat.lt_of_le_of_lt (Nat.gcd_le_right _ (by omega)) hb⟩
theorem low_red (n : Int) {d : Int} (hd : d ≠ 0) : (0 < d → lowN n d = n / ((Nat.gcd n.natAbs d.natAbs : Nat) : Int)) ∧ (0 < d → lowD n d = d / ((Nat.gcd n.natAbs d.natAbs : Nat) : Int)) ∧
    (d < 0 → lowN n d = n.fdiv (-((Nat.gcd n.natAbs d.natAbs : Nat) : Int))) ∧ (d < 0 → lowD n d = d.fdiv (-((Nat.gcd n.natAbs d.natAbs : Nat) : Int))) := by
  have hg : 0 < Nat.gcd n.natAbs d.natAbs := Nat.gcd_pos_of_pos_right _ (by omega)
  have h1 : ((Nat.gcd n.natAbs d.natAbs : Nat) : Int) ∣ n := Int.natAbs_dvd_natAbs.mp (by simpa using Nat.gcd_dvd_left n.natAbs d.natAbs)
  have h2 : ((Nat.gcd n.natAbs d.natAbs : Nat) : Int) ∣ d := Int.natAbs_dvd_natAbs.mp (by simpa using Nat.gcd_dvd_right n.natAbs d.natAbs)
  unfold lowN lowD
  generalize Nat.gcd n.natAbs d.natAbs = g at *
  have hz : (g : Int) ≠ 0 := by omega
  have neg : ∀ x : Int, (g : Int) ∣ x → x.fdiv (-(g : Int)) = -x / (g : Int) := fun x hx => by
    rw [Int.fdiv_eq_ediv_of_dvd (Int.neg_dvd.mpr hx), Int.ediv_neg, Int.neg_ediv_of_dvd hx]
  refine ⟨fun h => ?_, fun h => ?_, fun h => ?_, fun h => ?_⟩
  · rw [if_neg (by omega), Int.one_mul]
  · rw [if_neg (by omega)]
  · rw [if_pos h, neg n h1, Int.neg_one_mul]
  · rw [if_pos h, neg d h2]
/-! ### the order of fractions; corners -/
def ltF (f g : Fr) : Bool := decide (f.1 * g.2 < g.1 * f.2)
/-- reduced -/
def Rd (f : Fr) : Prop := 0 < f.2 ∧ Nat.gcd f.1.natAbs f.2.natAbs = 1
theorem ltF_irr (f : Fr) : ltF f f = false := decide_eq_false (Int.lt_irrefl _)
theorem ltF_tr {f g h : Fr} (hf : 0 < f.2) (hg : 0 < g.2) (hh : 0 < h.2) (h1 : ltF f g = true) (h2 : ltF g h = true) : ltF f h = true := by
  have a := of_decide_eq_true h1
  have b := of_decide_eq_true h2
  refine decide_eq_true ?_
  have c := Int.mul_lt_mul_of_pos_right a hh
  have d := Int.mul_lt_mul_of_pos_right b hf
  have e : g.1 * f.2 * h.2 = g.1 * h.2 * f.2 := by grind
  have k : (f.1 * h.2) * g.2 < (h.1 * f.2) * g.2 := by
    have e1 : f.1 * g.2 * h.2 = (f.1 * h.2) * g.2 := by grind
    have e2 : h.1 * g.2 * f.2 = (h.1 * f.2) * g.2 := by grind
    omega
  exact Int.lt_of_mul_lt_mul_right k (Int.le_of_lt hg)
theorem ltF_tot {f g : Fr} (hf : Rd f) (hg : Rd g) (h1 : ltF f g = false) (h2 : ltF g f = false) : f = g := by
  have a := of_decide_eq_false h1
  have b := of_decide_eq_false h2
  have e : f.1 * g.2 = g.1 * f.2 := by omega
  obtain ⟨f1, f2⟩ := f
  obtain ⟨g1, g2⟩ := g
  obtain ⟨p1, q1⟩ := hf
  obtain ⟨p2, q2⟩ := hg
  dsimp only at *
  have en : f1.natAbs * g2.natAbs = g1.natAbs * f2.natAbs := by rw [← Int.natAbs_mul, ← Int.natAbs_mul, e]
  have d1 : f2.natAbs ∣ g2.natAbs := by
    have : f2.natAbs ∣ f1.natAbs * g2.natAbs := by rw [en]; exact Nat.dvd_mul_left _ _
    exact Nat.Coprime.dvd_of_dvd_mul_left (Nat.Coprime.symm q1) this
  have d2 : g2.natAbs ∣ f2.natAbs := by
    have : g2.natAbs ∣ g1.natAbs * f2.natAbs := by rw [← en]; exact Nat.dvd_mul_left _ _
    exact Nat.Coprime.dvd_of_dvd_mul_left (Nat.Coprime.symm q2) this
  have e2 : f2.natAbs = g2.natAbs := Nat.dvd_antisymm d1 d2
  have e3 : f2 = g2 := by omega
  subst e3
  rw [Int.eq_of_mul_eq_mul_right (Int.ne_of_gt p1) e]
abbrev Cor := Fr × Fr
def ltC (c d : Cor) : Bool := if c.1 = d.1 then ltF c.2 d.2 else ltF c.1 d.1
def RdC (c : Cor) : Prop := Rd c.1 ∧ Rd c.2
theorem ltC_irr (c : Cor) : ltC c c = false := by unfold ltC; rw [if_pos rfl]; exact ltF_irr _
theorem ltC_tr {c d e : Cor} (hc : RdC c) (hd : RdC d) (he : RdC e) (h1 : ltC c d = true) (h2 : ltC d e = true) : ltC c e = true := by
  unfold ltC at *
  by_cases e1 : c.1 = d.1
  · rw [if_pos e1] at h1
    by_cases e2 : d.1 = e.1
    · rw [if_pos e2] at h2
      rw [if_pos (e1.trans e2)]
      exact ltF_tr hc.2.1 hd.2.1 he.2.1 h1 h2
    · rw [if_neg e2] at h2
      rw [if_neg (by rw [e1]; exact e2), e1]
      exact h2
  · rw [if_neg e1] at h1
    by_cases e2 : d.1 = e.1
    · rw [← e2, if_neg e1]
      exact h1
    · rw [if_neg e2] at h2
      have h3 := ltF_tr hc.1.1 hd.1.1 he.1.1 h1 h2
      rw [if_neg fun z => by rw [z, ltF_irr] at h3; cases h3]
      exact h3
theorem ltC_tot {c d : Cor} (hc : RdC c) (hd : RdC d) (h1 : ltC c d = false) (h2 : ltC d c = false) : c = d := by
  unfold ltC at *
  by_cases e1 : c.1 = d.1
  · rw [if_pos e1] at h1
    rw [if_pos e1.symm] at h2
    have := ltF_tot hc.2 hd.2 h1 h2
    exact Prod.ext e1 this
  · rw [if_neg e1] at h1
    rw [if_neg (fun z => e1 z.symm)] at h2
    exact absurd (ltF_tot hc.1 hd.1 h1 h2) e1
/-- one more, put behind all lesser ones -/
def insC (fs : List Cor) (c : Cor) : List Cor := if c ∈ fs then fs else fs.take (fs.filter fun x => ltC x c).length ++ [c] ++ fs.drop (fs.filter fun x => ltC x c).length
def Srt (fs : List Cor) : Prop := fs.Pairwise (fun x y => ltC x y = true) ∧ ∀ x ∈ fs, RdC x
theorem split_at {c : Cor} (hc : RdC c) : ∀ {fs : List Cor}, Srt fs → (∀ x ∈ fs.take (fs.filter fun x => ltC x c).length, ltC x c = true) ∧ ∀ x ∈ fs.drop (fs.filter fun x => ltC x c).length, ltC x c = false
  | [], _ => ⟨by simp, by simp⟩
  | x :: fs, ⟨h1, h2⟩ => by
    obtain ⟨p1, p2⟩ := List.pairwise_cons.mp h1
    have sf : Srt fs := ⟨p2, fun y hy => h2 y (List.mem_cons_of_mem _ hy)⟩
    obtain ⟨q1, q2⟩ := split_at hc sf
    cases hx : ltC x c with
    | true =>
      rw [List.filter_cons_of_pos (p := fun x => ltC x c) hx]
      simp only [List.length_cons, List.take_succ_cons, List.drop_succ_cons]
      refine ⟨fun y hy => ?_, q2⟩
      rcases List.mem_cons.mp hy with rfl | hy
      · exact hx
      · exact q1 y hy
    | false =>
      have hn : ∀ y ∈ fs, ltC y c = false := fun y hy => by
        cases hz : ltC y c with
        | false => rfl
        | true =>
          have := ltC_tr (h2 x (by simp)) (h2 y (List.mem_cons_of_mem _ hy)) hc (p1 y hy) hz
          rw [hx] at this
          cases this
      have e : ((x :: fs).filter fun x => ltC x c) = [] := List.filter_eq_nil_iff.mpr fun y hy => by
        rcases List.mem_cons.mp hy with rfl | hy
        · rw [hx]; decide
        · rw [hn y hy]; decide
      rw [e]
      refine ⟨by simp, fun y hy => ?_⟩
      have hy : y ∈ x :: fs := by simpa using hy
      rcases List.mem_cons.mp hy with rfl | hy
      · exact hx
      · exact hn y hy
theorem ins_srt {c : Cor} (hc : RdC c) {fs : List Cor} (h : Srt fs) : Srt (insC fs c) ∧ ∀ x, x ∈ insC fs c ↔ x ∈ fs ∨ x = c := by
  unfold insC
  by_cases hm : c ∈ fs
  · rw [if_pos hm]
    exact ⟨h, fun x => ⟨.inl, fun z => z.elim id fun e => by rw [e]; exact hm⟩⟩
  · rw [if_neg hm]
    obtain ⟨q1, q2⟩ := split_at hc h
    generalize (fs.filter fun x => ltC x c).length = k at *
    have et : fs.take k ++ fs.drop k = fs := List.take_append_drop k fs
    have mem : ∀ x, x ∈ fs.take k ++ [c] ++ fs.drop k ↔ x ∈ fs ∨ x = c := fun x => by
      have e2 : x ∈ fs ↔ x ∈ fs.take k ++ fs.drop k := by rw [et]
      rw [e2]
      simp only [List.mem_append, List.mem_singleton]
      constructor
      · rintro ((h | h) | h)
        · exact .inl (.inl h)
        · exact .inr h
        · exact .inl (.inr h)
      · rintro ((h | h) | h)
        · exact .inl (.inl h)
        · exact .inr h
        · exact .inl (.inr h)
    have gt : ∀ y ∈ fs.drop k, ltC c y = true := fun y hy => by
      have hyf : y ∈ fs := List.mem_of_mem_drop hy
      cases hz : ltC c y with
      | true => rfl
      | false => exact absurd (ltC_tot hc (h.2 y hyf) hz (q2 y hy)) fun e => hm (by rw [e]; exact hyf)
    have pw : (fs.take k ++ fs.drop k).Pairwise (fun x y => ltC x y = true) := by rw [et]; exact h.1
    obtain ⟨w1, w2, w3⟩ := List.pairwise_append.mp pw
    refine ⟨⟨?_, fun x hx => ?_⟩, mem⟩
    · refine List.pairwise_append.mpr ⟨List.pairwise_append.mpr ⟨w1, List.pairwise_singleton _ _, fun x hx y hy => ?_⟩, w2, fun x hx y hy => ?_⟩
      · rw [List.mem_singleton.mp hy]
        exact q1 x hx
      · rcases List.mem_append.mp hx with hx | hx
        · exact w3 x hx y hy
        · rw [List.mem_singleton.mp hx]
          exact gt y hy
    · rcases (mem x).mp hx with h' | rfl
      · exact h.2 x h'
      · exact hc
def sortC (cs : List Cor) : List Cor := cs.foldl insC []
theorem sort_srt : ∀ {cs fs : List Cor}, Srt fs → (∀ c ∈ cs, RdC c) → Srt (cs.foldl insC fs) ∧ ∀ x, x ∈ cs.foldl insC fs ↔ x ∈ fs ∨ x ∈ cs
  | [], fs, h, _ => ⟨h, fun x => by simp⟩
  | c :: cs, fs, h, hc => by
    obtain ⟨a1, a2⟩ := ins_srt (hc c (by simp)) h
    obtain ⟨b1, b2⟩ := sort_srt (cs := cs) a1 fun d hd => hc d (List.mem_cons_of_mem _ hd)
    refine ⟨b1, fun x => ?_⟩
    rw [List.foldl_cons, b2, a2, List.mem_cons]
    constructor
    · rintro ((h | h) | h)
      · exact .inl h
      · exact .inr (.inl h)
      · exact .inr (.inr h)
    · rintro (h | h | h)
      · exact .inl (.inl h)
      · exact .inl (.inr h)
      · exact .inr h
theorem srt_one : ∀ {fs gs : List Cor}, Srt fs → Srt gs → (∀ x, x ∈ fs ↔ x ∈ gs) → fs = gs
  | [], [], _, _, _ => rfl
  | [], g :: gs, _, _, h => absurd ((h g).mpr (by simp)) (by simp)
  | f :: fs, [], _, _, h => absurd ((h f).mp (by simp)) (by simp)
  | f :: fs, g :: gs, ⟨h1, h2⟩, ⟨k1, k2⟩, h => by
    obtain ⟨p1, p2⟩ := List.pairwise_cons.mp h1
    obtain ⟨q1, q2⟩ := List.pairwise_cons.mp k1
    have hf : RdC f := h2 f (by simp)
    have hg : RdC g := k2 g (by simp)
    have e : f = g := by
      rcases List.mem_cons.mp ((h f).mp (by simp)) with e | e
      · exact e
      · rcases List.mem_cons.mp ((h g).mpr (by simp)) with e2 | e2
        · exact e2.symm
        · have := ltC_tr hf hg hf (p1 g e2) (q1 f e)
          rw [ltC_irr] at this
          cases this
    subst e
    have nf : ∀ {l : List Cor}, (∀ y ∈ l, ltC f y = true) → f ∉ l := fun {l} hl hm => by
      have := hl f hm
      rw [ltC_irr] at this
      cases this
    rw [srt_one ⟨p2, fun x hx => h2 x (List.mem_cons_of_mem _ hx)⟩ ⟨q2, fun x hx => k2 x (List.mem_cons_of_mem _ hx)⟩ fun x => ?_]
    constructor
    · intro hx
      rcases List.mem_cons.mp ((h x).mp (List.mem_cons_of_mem _ hx)) with e | e
      · subst e
        exact absurd hx (nf p1)
      · exact e
    · intro hx
      rcases List.mem_cons.mp ((h x).mpr (List.mem_cons_of_mem _ hx)) with e | e
      · subst e
        exact absurd hx (nf q1)
      · exact e
/-- corners told in any order sort alike -/
theorem sort_alike {cs ds : List Cor} (hc : ∀ c ∈ cs, RdC c) (h : ∀ x, x ∈ cs ↔ x ∈ ds) : sortC cs = sortC ds := by
  have h0 : Srt [] := ⟨List.Pairwise.nil, by simp⟩
  obtain ⟨a1, a2⟩ := sort_srt h0 hc
  obtain ⟨b1, b2⟩ := sort_srt h0 fun d hd => hc d ((h d).mpr hd)
  refine srt_one a1 b1 fun x => ?_
  show x ∈ cs.foldl insC [] ↔ x ∈ ds.foldl insC []
  rw [a2, b2, h]
end Frac

/-! plain law of the nearest of two legs -/
namespace Frac
variable [Dl.LamT]
open PySem L2 Dl
/-! ### fractions as numbers -/
def val (f : Fr) : Rat := (f.1 : Rat) / (f.2 : Rat)
theorem cast_ne {b : Int} (h : b ≠ 0) : (b : Rat) ≠ 0 := fun e => h (by
  have := Rat.intCast_inj.mp (e.trans (Rat.intCast_zero).symm)
  exact this)
theorem cast_pos {b : Int} (h : 0 < b) : (0 : Rat) < (b : Rat) := by
  have := Rat.intCast_lt_intCast.mpr h
  rw [Rat.intCast_zero] at this
  exact this
theorem cross_eq {a b c d : Int} (hb : b ≠ 0) (hd : d ≠ 0) (h : a * d = c * b) : (a : Rat) / b = (c : Rat) / d := by
  have h1 : (a : Rat) * d = (c : Rat) * b := by rw [← Rat.intCast_mul, ← Rat.intCast_mul, h]
  have hb' := cast_ne hb
  have hd' := cast_ne hd
  grind
theorem eq_cross {a b c d : Int} (hb : b ≠ 0) (hd : d ≠ 0) (h : (a : Rat) / b = (c : Rat) / d) : a * d = c * b := by
  have hb' := cast_ne hb
  have hd' := cast_ne hd
  have h1 : (a : Rat) * d = (c : Rat) * b := by grind
  rw [← Rat.intCast_mul, ← Rat.intCast_mul] at h1
  exact Rat.intCast_inj.mp h1
theorem low_cross (n : Int) {d : Int} (hd : d ≠ 0) : lowN n d * d = n * lowD n d := by
  have hg : 0 < Nat.gcd n.natAbs d.natAbs := Nat.gcd_pos_of_pos_right _ (by omega)
  have h1 : ((Nat.gcd n.natAbs d.natAbs : Nat) : Int) ∣ n := Int.natAbs_dvd_natAbs.mp (by simpa using Nat.gcd_dvd_left n.natAbs d.natAbs)
  have h2 : ((Nat.gcd n.natAbs d.natAbs : Nat) : Int) ∣ d := Int.natAbs_dvd_natAbs.mp (by simpa using Nat.gcd_dvd_right n.natAbs d.natAbs)
  unfold lowN lowD
  generalize Nat.gcd n.natAbs d.natAbs = g at *
  have hz : (g : Int) ≠ 0 := by omega
  obtain ⟨a, rfl⟩ := h1
  obtain ⟨b, rfl⟩ := h2
  split
  · have e1 : -1 * ((g : Int) * a) / (g : Int) = -a := by
      rw [show -1 * ((g : Int) * a) = (g : Int) * (-a) by grind]
      exact Int.mul_ediv_cancel_left _ hz
    have e2 : -((g : Int) * b) / (g : Int) = -b := by
      rw [show -((g : Int) * b) = (g : Int) * (-b) by grind]
      exact Int.mul_ediv_cancel_left _ hz
    rw [e1, e2]
    grind
  · rw [Int.one_mul, Int.mul_ediv_cancel_left _ hz, Int.mul_ediv_cancel_left _ hz]
    grind
theorem val_low {n d : Int} (hd : d ≠ 0) : val (lowF n d) = (n : Rat) / d := by
  have h := (low_ok (n := n) hd).1.1
  exact cross_eq (Int.ne_of_gt h) hd (low_cross n hd)
theorem rd_low {n d : Int} (hd : d ≠ 0) : Rd (lowF n d) := by
  have h := (low_ok (n := n) hd).1.1
  refine ⟨h, ?_⟩
  have hg : 0 < Nat.gcd n.natAbs d.natAbs := Nat.gcd_pos_of_pos_right _ (by omega)
  have h1 : ((Nat.gcd n.natAbs d.natAbs : Nat) : Int) ∣ n := Int.natAbs_dvd_natAbs.mp (by simpa using Nat.gcd_dvd_left n.natAbs d.natAbs)
  have h2 : ((Nat.gcd n.natAbs d.natAbs : Nat) : Int) ∣ d := Int.natAbs_dvd_natAbs.mp (by simpa using Nat.gcd_dvd_right n.natAbs d.natAbs)
  have a1 : (lowN n d).natAbs = n.natAbs / Nat.gcd n.natAbs d.natAbs := by
    unfold lowN
    have e : ((if d < 0 then -1 else 1) * n).natAbs = n.natAbs := by split <;> omega
    have dv : ((Nat.gcd n.natAbs d.natAbs : Nat) : Int) ∣ (if d < 0 then -1 else 1) * n := Int.dvd_trans h1 (Int.dvd_mul_left _ _)
    rw [Int.natAbs_ediv_of_dvd dv, e, Int.natAbs_natCast]
  have a2 : (lowD n d).natAbs = d.natAbs / Nat.gcd n.natAbs d.natAbs := by
    unfold lowD
    have e : (if d < 0 then -d else d).natAbs = d.natAbs := by split <;> omega
    have dv : ((Nat.gcd n.natAbs d.natAbs : Nat) : Int) ∣ (if d < 0 then -d else d) := by
      split
      · exact Int.dvd_neg.mpr h2
      · exact h2
    rw [Int.natAbs_ediv_of_dvd dv, e, Int.natAbs_natCast]
  show Nat.gcd (lowN n d).natAbs (lowD n d).natAbs = 1
  rw [a1, a2]
  exact Nat.coprime_div_gcd_div_gcd hg
theorem val_inj {f g : Fr} (hf : Rd f) (hg : Rd g) (h : val f = val g) : f = g := by
  have e := eq_cross (Int.ne_of_gt hf.1) (Int.ne_of_gt hg.1) h
  refine ltF_tot hf hg (decide_eq_false ?_) (decide_eq_false ?_) <;> omega
theorem lt_val {f g : Fr} (hf : 0 < f.2) (hg : 0 < g.2) : ltF f g = decide (val f < val g) := by
  unfold ltF val
  rw [decide_eq_decide]
  have p := cast_pos hf
  have q := cast_pos hg
  have e : (f.1 * g.2 < g.1 * f.2) ↔ ((f.1 : Rat) * g.2 < (g.1 : Rat) * f.2) := by rw [← Rat.intCast_mul, ← Rat.intCast_mul, Rat.intCast_lt_intCast]
  rw [e]
  have e1 : (f.1 : Rat) = (f.1 : Rat) / f.2 * f.2 := by grind
  have e2 : (g.1 : Rat) = (g.1 : Rat) / g.2 * g.2 := by grind
  generalize (f.1 : Rat) / f.2 = x at *
  generalize (g.1 : Rat) / g.2 = y at *
  rw [e1, e2]
  have pq : (0 : Rat) < (f.2 : Rat) * g.2 := Rat.mul_pos p q
  have r1 : x * f.2 * g.2 = x * ((f.2 : Rat) * g.2) := by grind
  have r2 : y * g.2 * f.2 = y * ((f.2 : Rat) * g.2) := by grind
  rw [r1, r2]
  constructor
  · intro h
    refine Rat.not_le.mp fun hn => ?_
    have := Rat.mul_le_mul_of_nonneg_right hn (Rat.le_of_lt pq)
    grind
  · exact fun h => Rat.mul_lt_mul_of_pos_right h pq
section
variable {f g : Fr}
theorem val_add (hf : 0 < f.2) (hg : 0 < g.2) : val (addF f g) = val f + val g := by
  have p := cast_ne (Int.ne_of_gt hf)
  have q := cast_ne (Int.ne_of_gt hg)
  unfold addF
  rw [val_low (Int.ne_of_gt (Int.mul_pos hf hg))]
  unfold val
  rw [Rat.intCast_add, Rat.intCast_mul, Rat.intCast_mul, Rat.intCast_mul]
  grind
theorem val_les (hf : 0 < f.2) (hg : 0 < g.2) : val (lesF f g) = val f - val g := by
  have p := cast_ne (Int.ne_of_gt hf)
  have q := cast_ne (Int.ne_of_gt hg)
  unfold lesF
  rw [val_low (Int.ne_of_gt (Int.mul_pos hf hg))]
  unfold val
  rw [Rat.intCast_sub, Rat.intCast_mul, Rat.intCast_mul, Rat.intCast_mul]
  grind
theorem val_mul (hf : 0 < f.2) (hg : 0 < g.2) : val (mulF f g) = val f * val g := by
  have p := cast_ne (Int.ne_of_gt hf)
  have q := cast_ne (Int.ne_of_gt hg)
  unfold mulF
  rw [val_low (Int.ne_of_gt (Int.mul_pos hf hg))]
  unfold val
  rw [Rat.intCast_mul, Rat.intCast_mul]
  grind
theorem val_zero_iff (hg : 0 < g.2) : val g = 0 ↔ g.1 = 0 := by
  have q := cast_ne (Int.ne_of_gt hg)
  constructor
  · intro h
    unfold val at h
    have : (g.1 : Rat) = 0 := by grind
    exact Rat.intCast_inj.mp (this.trans Rat.intCast_zero.symm)
  · intro h
    unfold val
    rw [h, Rat.intCast_zero]
    grind
theorem val_div (hf : 0 < f.2) (hg : 0 < g.2) (h0 : g.1 ≠ 0) : val (divF f g) = val f / val g := by
  have p := cast_ne (Int.ne_of_gt hf)
  have q := cast_ne (Int.ne_of_gt hg)
  have r := cast_ne h0
  unfold divF
  rw [val_low (Int.mul_ne_zero (Int.ne_of_gt hf) h0)]
  unfold val
  rw [Rat.intCast_mul, Rat.intCast_mul]
  grind
theorem rd_add (hf : 0 < f.2) (hg : 0 < g.2) : Rd (addF f g) := rd_low (Int.ne_of_gt (Int.mul_pos hf hg))
theorem rd_les (hf : 0 < f.2) (hg : 0 < g.2) : Rd (lesF f g) := rd_low (Int.ne_of_gt (Int.mul_pos hf hg))
theorem rd_mul (hf : 0 < f.2) (hg : 0 < g.2) : Rd (mulF f g) := rd_low (Int.ne_of_gt (Int.mul_pos hf hg))
theorem rd_div (hf : 0 < f.2) (h0 : g.1 ≠ 0) : Rd (divF f g) := rd_low (Int.mul_ne_zero (Int.ne_of_gt hf) h0)
theorem val_int (n : Int) : val (n, 1) = (n : Rat) := by
  unfold val
  dsimp only
  rw [Rat.intCast_one]
  grind
end
/-- a reduced fraction is not longer than another telling of its number -/
theorem rd_small {f : Fr} (hf : Rd f) {n d : Int} (hd : 0 < d) (h : val f = (n : Rat) / d) : f.1.natAbs ≤ n.natAbs ∧ f.2 ≤ d := by
  have e := eq_cross (Int.ne_of_gt hf.1) (Int.ne_of_gt hd) h
  obtain ⟨p, q⟩ := hf
  have en : f.1.natAbs * d.natAbs = n.natAbs * f.2.natAbs := by rw [← Int.natAbs_mul, ← Int.natAbs_mul, e]
  have d1 : f.2.natAbs ∣ d.natAbs := by
    have : f.2.natAbs ∣ f.1.natAbs * d.natAbs := by rw [en]; exact Nat.dvd_mul_left _ _
    exact Nat.Coprime.dvd_of_dvd_mul_left (Nat.Coprime.symm q) this
  have l1 : f.2.natAbs ≤ d.natAbs := Nat.le_of_dvd (by omega) d1
  obtain ⟨k, hk⟩ := d1
  have hk0 : 0 < k := by
    rcases Nat.eq_zero_or_pos k with z | z
    · rw [z, Nat.mul_zero] at hk
      omega
    · exact z
  have e2 : f.1.natAbs * k = n.natAbs := by
    rw [hk] at en
    have : f.2.natAbs * (f.1.natAbs * k) = f.2.natAbs * n.natAbs := by
      rw [Nat.mul_comm f.2.natAbs n.natAbs, ← en]
      rw [Nat.mul_left_comm]
    exact Nat.eq_of_mul_eq_mul_left (by omega) this
  refine ⟨?_, by omega⟩
  rw [← e2]
  exact Nat.le_mul_of_pos_right _ hk0
end Frac

/-! plain law of the nearest: the six-cornered field, its sides, its least -/
namespace Frac
variable [Dl.LamT]
open PySem L2 Dl
abbrev Col := Int × Int
abbrev Leg := Col × Col
abbrev Pt := Rat × Rat
def gx (l m : Leg) (p : Pt) : Rat := ((m.1.1 : Rat) + p.2 * ((m.2.1 : Rat) - (m.1.1 : Rat))) - ((l.1.1 : Rat) + p.1 * ((l.2.1 : Rat) - (l.1.1 : Rat)))
def gy (l m : Leg) (p : Pt) : Rat := ((m.1.2 : Rat) + p.2 * ((m.2.2 : Rat) - (m.1.2 : Rat))) - ((l.1.2 : Rat) + p.1 * ((l.2.2 : Rat) - (l.1.2 : Rat)))
def Q (l m : Leg) (p : Pt) : Rat := gx l m p * gx l m p + gy l m p * gy l m p
def mid (c d : Pt) (x : Rat) : Pt := (c.1 + x * (d.1 - c.1), c.2 + x * (d.2 - c.2))
def Bq (l m : Leg) (c d : Pt) : Rat := gx l m c * (gx l m d - gx l m c) + gy l m c * (gy l m d - gy l m c)
def Cq (l m : Leg) (c d : Pt) : Rat := (gx l m d - gx l m c) * (gx l m d - gx l m c) + (gy l m d - gy l m c) * (gy l m d - gy l m c)
section
variable {l m : Leg} {c d y z : Pt} {x u : Rat}
theorem gx_mid : gx l m (mid c d x) = gx l m c + x * (gx l m d - gx l m c) := by unfold gx mid; grind
theorem gy_mid : gy l m (mid c d x) = gy l m c + x * (gy l m d - gy l m c) := by unfold gy mid; grind
theorem Q_mid : Q l m (mid c d x) = Q l m c + 2 * x * Bq l m c d + x * x * Cq l m c d := by
  unfold Q Bq Cq
  rw [gx_mid, gy_mid]
  grind
theorem sqr_nonneg (a : Rat) : 0 ≤ a * a := by
  rcases (Rat.le_total : 0 ≤ a ∨ a ≤ 0) with h | h
  · exact Rat.mul_nonneg h h
  · have := Rat.mul_nonneg (show 0 ≤ -a by grind) (show 0 ≤ -a by grind)
    grind
theorem Q_nonneg (l m : Leg) (p : Pt) : 0 ≤ Q l m p := by
  have a := sqr_nonneg (gx l m p)
  have b := sqr_nonneg (gy l m p)
  unfold Q
  grind
theorem Cq_nonneg (l m : Leg) (c d : Pt) : 0 ≤ Cq l m c d := by
  have a := sqr_nonneg (gx l m d - gx l m c)
  have b := sqr_nonneg (gy l m d - gy l m c)
  unfold Cq
  grind
theorem sqr_zero {a : Rat} (h : a * a = 0) : a = 0 := by
  rcases Rat.mul_eq_zero.mp h with h | h <;> exact h
theorem Cq_zero (h : Cq l m c d = 0) : gx l m d = gx l m c ∧ gy l m d = gy l m c := by
  have a := sqr_nonneg (gx l m d - gx l m c)
  have b := sqr_nonneg (gy l m d - gy l m c)
  unfold Cq at h
  have a0 : (gx l m d - gx l m c) * (gx l m d - gx l m c) = 0 := by grind
  have b0 : (gy l m d - gy l m c) * (gy l m d - gy l m c) = 0 := by grind
  have := sqr_zero a0
  have := sqr_zero b0
  exact ⟨by grind, by grind⟩
theorem Q_flat (h : Cq l m c d = 0) : Q l m (mid c d x) = Q l m c := by
  obtain ⟨h1, h2⟩ := Cq_zero h
  unfold Q
  rw [gx_mid, gy_mid, h1, h2]
  grind
/-- the nearest place on a side -/
def Best (l m : Leg) (c d y : Pt) : Prop := ∃ x : Rat, 0 ≤ x ∧ x ≤ 1 ∧ y = mid c d x ∧ 0 < Cq l m c d ∧ (Cq l m c d * x + Bq l m c d = 0 ∨ (x = 0 ∧ 0 ≤ Bq l m c d) ∨ (x = 1 ∧ Cq l m c d + Bq l m c d ≤ 0))
theorem best_le (h : Best l m c d y) (h0 : 0 ≤ u) (h1 : u ≤ 1) : Q l m y ≤ Q l m (mid c d u) ∧ (Q l m y = Q l m (mid c d u) → mid c d u = y) := by
  obtain ⟨x, x0, x1, rfl, hC, hx⟩ := h
  have e : Q l m (mid c d u) - Q l m (mid c d x) = Cq l m c d * ((u - x) * (u - x)) + 2 * ((Cq l m c d * x + Bq l m c d) * (u - x)) := by
    rw [Q_mid, Q_mid]
    grind
  have t : 0 ≤ (Cq l m c d * x + Bq l m c d) * (u - x) := by
    rcases hx with h | ⟨rfl, h⟩ | ⟨rfl, h⟩
    · rw [h]
      grind
    · have := Rat.mul_nonneg h h0
      grind
    · have := Rat.mul_nonneg (show 0 ≤ -(Cq l m c d + Bq l m c d) by grind) (show 0 ≤ 1 - u by grind)
      grind
  have s := sqr_nonneg (u - x)
  have cs := Rat.mul_nonneg (Rat.le_of_lt hC) s
  refine ⟨by grind, fun q => ?_⟩
  have z : Cq l m c d * ((u - x) * (u - x)) = 0 := by grind
  rcases Rat.mul_eq_zero.mp z with z | z
  · rw [z] at hC
    exact absurd hC (by grind)
  · have := sqr_zero z
    rw [show u = x by grind]
theorem best_ex (hC : Cq l m c d ≠ 0) : ∃ y, Best l m c d y := by
  have C0 := Cq_nonneg l m c d
  have hp : 0 < Cq l m c d := by grind
  by_cases h1 : 0 ≤ Bq l m c d
  · exact ⟨_, 0, by grind, by grind, rfl, hp, .inr (.inl ⟨rfl, h1⟩)⟩
  · by_cases h2 : Cq l m c d + Bq l m c d ≤ 0
    · exact ⟨_, 1, by grind, by grind, rfl, hp, .inr (.inr ⟨rfl, h2⟩)⟩
    · have e : Cq l m c d * (-Bq l m c d / Cq l m c d) + Bq l m c d = 0 := by grind
      generalize hx : -Bq l m c d / Cq l m c d = x at *
      refine ⟨_, x, ?_, ?_, rfl, hp, .inl e⟩
      · refine Rat.not_lt.mp fun hn => ?_
        have := Rat.mul_pos hp (show 0 < -x by grind)
        grind
      · refine Rat.not_lt.mp fun hn => ?_
        have := Rat.mul_pos hp (show 0 < x - 1 by grind)
        grind
theorem mid_flip : mid d c (1 - x) = mid c d x := by unfold mid; ext <;> grind
theorem C_flip : Cq l m d c = Cq l m c d := by unfold Cq; grind
theorem B_flip : Bq l m d c = -(Cq l m c d + Bq l m c d) := by unfold Cq Bq; grind
theorem best_flip (h : Best l m c d y) : Best l m d c y := by
  obtain ⟨x, x0, x1, rfl, hC, hx⟩ := h
  refine ⟨1 - x, by grind, by grind, mid_flip.symm, by rw [C_flip]; exact hC, ?_⟩
  rw [C_flip, B_flip]
  rcases hx with h | ⟨h1, h2⟩ | ⟨h1, h2⟩
  · exact .inl (by grind)
  · exact .inr (.inr ⟨by grind, by grind⟩)
  · exact .inr (.inl ⟨by grind, by grind⟩)
theorem best_one (h : Best l m c d y) (g : Best l m c d z) : y = z := by
  obtain ⟨u, u0, u1, rfl, _⟩ := id g
  obtain ⟨a, b⟩ := best_le h u0 u1
  obtain ⟨x, x0, x1, rfl, _⟩ := id h
  obtain ⟨a2, b2⟩ := best_le g x0 x1
  exact (b (Rat.le_antisymm a a2)).symm
end
/-! ### the order of triples -/
abbrev Tr := Rat × Rat × Rat
def lexLe (a b : Tr) : Prop := a.1 < b.1 ∨ (a.1 = b.1 ∧ (a.2.1 < b.2.1 ∨ (a.2.1 = b.2.1 ∧ a.2.2 ≤ b.2.2)))
theorem lexLe_refl (a : Tr) : lexLe a a := .inr ⟨rfl, .inr ⟨rfl, Rat.le_refl⟩⟩
theorem lexLe_anti {a b : Tr} (h : lexLe a b) (g : lexLe b a) : a = b := by
  obtain ⟨a1, a2, a3⟩ := a
  obtain ⟨b1, b2, b3⟩ := b
  unfold lexLe at h g
  dsimp only at h g
  have e1 : a1 = b1 := by grind
  have e2 : a2 = b2 := by grind
  have e3 : a3 = b3 := by grind
  rw [e1, e2, e3]
theorem lexLe_tr {a b c : Tr} (h : lexLe a b) (g : lexLe b c) : lexLe a c := by
  unfold lexLe at *
  grind
theorem lexLe_tot (a b : Tr) : lexLe a b ∨ lexLe b a := by
  unfold lexLe
  grind
def T (l m : Leg) (p : Pt) : Tr := (Q l m p, p.1, p.2)
/-! ### the field -/
def H (r : Rat) (p : Pt) : Prop := (0 ≤ p.1 ∧ p.1 ≤ 1) ∧ (0 ≤ p.2 ∧ p.2 ≤ 1) ∧ p.1 - p.2 ≤ r ∧ p.2 - p.1 ≤ r
def edges (r : Rat) : List (Pt × Pt) := [((0, 0), (0, r)), ((0, r), (1 - r, 1)), ((1 - r, 1), (1, 1)), ((1, 1), (1, 1 - r)), ((1, 1 - r), (r, 0)), ((r, 0), (0, 0))]
def turnR (l m : Leg) : Rat := ((l.2.1 : Rat) - (l.1.1 : Rat)) * ((m.2.2 : Rat) - (m.1.2 : Rat)) - ((l.2.2 : Rat) - (l.1.2 : Rat)) * ((m.2.1 : Rat) - (m.1.1 : Rat))
/-- where the lines meet -/
def Meet (l m : Leg) (p : Pt) : Prop := turnR l m ≠ 0 ∧ gx l m p = 0 ∧ gy l m p = 0
def Cand (l m : Leg) (r : Rat) (z : Pt) : Prop := (∃ e ∈ edges r, z = e.1) ∨ (∃ e ∈ edges r, Best l m e.1 e.2 z) ∨ (H r z ∧ Meet l m z)
def Near (l m : Leg) (r : Rat) (x : Tr) : Prop := (∃ y, Cand l m r y ∧ x = T l m y) ∧ ∀ z, Cand l m r z → lexLe x (T l m z)
section
variable {l m : Leg} {r x u : Rat} {c d y z : Pt}
theorem near_one {a b : Tr} (h : Near l m r a) (g : Near l m r b) : a = b := by
  obtain ⟨⟨y, h1, rfl⟩, h2⟩ := h
  obtain ⟨⟨z, g1, rfl⟩, g2⟩ := g
  exact lexLe_anti (h2 z g1) (g2 y h1)
theorem meet_one (h : Meet l m y) (g : Meet l m z) : y = z := by
  obtain ⟨t, h1, h2⟩ := h
  obtain ⟨_, g1, g2⟩ := g
  obtain ⟨y1, y2⟩ := y
  obtain ⟨z1, z2⟩ := z
  unfold gx at h1 g1
  unfold gy at h2 g2
  unfold turnR at t
  dsimp only at h1 h2 g1 g2
  generalize (l.1.1 : Rat) = a1 at *
  generalize (l.1.2 : Rat) = a2 at *
  generalize (l.2.1 : Rat) = a3 at *
  generalize (l.2.2 : Rat) = a4 at *
  generalize (m.1.1 : Rat) = b1 at *
  generalize (m.1.2 : Rat) = b2 at *
  generalize (m.2.1 : Rat) = b3 at *
  generalize (m.2.2 : Rat) = b4 at *
  have e1 : ((a3 - a1) * (b4 - b2) - (a4 - a2) * (b3 - b1)) * (y1 - z1) = 0 := by grind
  have e2 : ((a3 - a1) * (b4 - b2) - (a4 - a2) * (b3 - b1)) * (y2 - z2) = 0 := by grind
  rcases Rat.mul_eq_zero.mp e1 with e | e
  · exact absurd e t
  · rcases Rat.mul_eq_zero.mp e2 with f | f
    · exact absurd f t
    · have q1 : y1 = z1 := by grind
      have q2 : y2 = z2 := by grind
      rw [q1, q2]
theorem conv_le {a b k : Rat} (h0 : 0 ≤ x) (h1 : x ≤ 1) (ha : a ≤ k) (hb : b ≤ k) : a + x * (b - a) ≤ k := by
  have p := Rat.mul_nonneg h0 (show 0 ≤ k - b by grind)
  have q := Rat.mul_nonneg (show 0 ≤ 1 - x by grind) (show 0 ≤ k - a by grind)
  grind
theorem conv_ge {a b k : Rat} (h0 : 0 ≤ x) (h1 : x ≤ 1) (ha : k ≤ a) (hb : k ≤ b) : k ≤ a + x * (b - a) := by
  have p := Rat.mul_nonneg h0 (show 0 ≤ b - k by grind)
  have q := Rat.mul_nonneg (show 0 ≤ 1 - x by grind) (show 0 ≤ a - k by grind)
  grind
theorem H_mid (h0 : 0 ≤ x) (h1 : x ≤ 1) (hc : H r c) (hd : H r d) : H r (mid c d x) := by
  obtain ⟨⟨a1, a2⟩, ⟨a3, a4⟩, a5, a6⟩ := hc
  obtain ⟨⟨b1, b2⟩, ⟨b3, b4⟩, b5, b6⟩ := hd
  have e5 := conv_le h0 h1 a5 b5
  have e6 := conv_le h0 h1 a6 b6
  refine ⟨⟨conv_ge h0 h1 a1 b1, conv_le h0 h1 a2 b2⟩, ⟨conv_ge h0 h1 a3 b3, conv_le h0 h1 a4 b4⟩, ?_, ?_⟩
  · unfold mid
    dsimp only
    grind
  · unfold mid
    dsimp only
    grind
theorem edges_H (h0 : 0 ≤ r) (h1 : r ≤ 1) : ∀ e ∈ edges r, H r e.1 ∧ H r e.2 := by
  intro e he
  simp only [edges, List.mem_cons, List.not_mem_nil, or_false] at he
  rcases he with rfl | rfl | rfl | rfl | rfl | rfl <;> (unfold H; dsimp only; grind)
theorem cand_H (h0 : 0 ≤ r) (h1 : r ≤ 1) (h : Cand l m r z) : H r z := by
  rcases h with ⟨e, he, rfl⟩ | ⟨e, he, x, x0, x1, rfl, _⟩ | ⟨h, _⟩
  · exact (edges_H h0 h1 e he).1
  · exact H_mid x0 x1 (edges_H h0 h1 e he).1 (edges_H h0 h1 e he).2
  · exact h
/-- leaving the field -/
theorem exit_list : ∀ L : List (Rat × Rat), (∀ p ∈ L, 0 ≤ p.1) → (∀ p ∈ L, 0 ≤ p.2) ∨ ∃ u : Rat, 0 ≤ u ∧ u ≤ 1 ∧ (∀ p ∈ L, 0 ≤ p.1 + u * (p.2 - p.1)) ∧ ∃ p ∈ L, p.1 + u * (p.2 - p.1) = 0
  | [], _ => .inl (by simp)
  | p :: L, h => by
    have hp := h p (by simp)
    have hL : ∀ q ∈ L, 0 ≤ q.1 := fun q hq => h q (List.mem_cons_of_mem _ hq)
    have cut : p.2 < 0 → ∃ v : Rat, 0 ≤ v ∧ v ≤ 1 ∧ p.1 + v * (p.2 - p.1) = 0 := fun hn => by
      have hd : p.1 - p.2 ≠ 0 := by grind
      have e : p.1 + (p.1 / (p.1 - p.2)) * (p.2 - p.1) = 0 := by grind
      generalize p.1 / (p.1 - p.2) = v at *
      refine ⟨v, ?_, ?_, e⟩
      · refine Rat.not_lt.mp fun hv => ?_
        have := Rat.mul_pos (show 0 < -v by grind) (show 0 < p.1 - p.2 by grind)
        grind
      · refine Rat.not_lt.mp fun hv => ?_
        have := Rat.mul_pos (show 0 < v - 1 by grind) (show 0 < p.1 - p.2 by grind)
        grind
    rcases exit_list L hL with a | ⟨u, u0, u1, a, q, hq, b⟩
    · by_cases hn : 0 ≤ p.2
      · refine .inl fun q hq => ?_
        rcases List.mem_cons.mp hq with rfl | hq
        · exact hn
        · exact a q hq
      · obtain ⟨v, v0, v1, e⟩ := cut (by grind)
        refine .inr ⟨v, v0, v1, fun q hq => ?_, p, by simp, e⟩
        rcases List.mem_cons.mp hq with rfl | hq
        · grind
        · exact conv_ge v0 v1 (hL q hq) (a q hq)
    · by_cases hn : 0 ≤ p.1 + u * (p.2 - p.1)
      · refine .inr ⟨u, u0, u1, fun q' hq' => ?_, q, List.mem_cons_of_mem _ hq, b⟩
        rcases List.mem_cons.mp hq' with rfl | hq'
        · exact hn
        · exact a q' hq'
      · have hp2 : p.2 < 0 := by
          refine Rat.not_le.mp fun hz => hn ?_
          exact conv_ge u0 u1 hp hz
        obtain ⟨v, v0, v1, e⟩ := cut hp2
        have vu : v ≤ u := by
          refine Rat.not_lt.mp fun hlt => hn ?_
          have := Rat.mul_pos (show 0 < v - u by grind) (show 0 < p.1 - p.2 by grind)
          grind
        refine .inr ⟨v, v0, v1, fun q' hq' => ?_, p, by simp, e⟩
        rcases List.mem_cons.mp hq' with rfl | hq'
        · grind
        · have g0 := hL q' hq'
          have g1 := a q' hq'
          by_cases s : 0 ≤ q'.2 - q'.1
          · have := Rat.mul_nonneg v0 s
            grind
          · have := Rat.mul_nonneg (show 0 ≤ u - v by grind) (show 0 ≤ q'.1 - q'.2 by grind)
            grind
end
end Frac

/-! plain law of the nearest: nothing in the field is nearer; legs turned, exchanged -/
namespace Frac
variable [Dl.LamT]
open PySem L2 Dl
section
variable {l m : Leg} {r x u : Rat} {c d y z : Pt}
theorem edge_of (h0 : 0 ≤ r) (h1 : r ≤ 1) (h : H r y) (hz : y.1 = 0 ∨ y.2 = 0 ∨ 1 - y.1 = 0 ∨ 1 - y.2 = 0 ∨ r - (y.1 - y.2) = 0 ∨ r - (y.2 - y.1) = 0) :
    ∃ e ∈ edges r, ∃ x : Rat, 0 ≤ x ∧ x ≤ 1 ∧ y = mid e.1 e.2 x := by
  obtain ⟨⟨a1, a2⟩, ⟨a3, a4⟩, a5, a6⟩ := h
  obtain ⟨s, t⟩ := y
  dsimp only at *
  have quot : ∀ {p q : Rat}, 0 ≤ p → p ≤ q → ∃ x : Rat, 0 ≤ x ∧ x ≤ 1 ∧ p = x * q := fun {p q} hp hq => by
    by_cases hz : q = 0
    · exact ⟨0, by grind, by grind, by grind⟩
    · have e : p = p / q * q := by grind
      have qp : 0 < q := by grind
      generalize p / q = x at *
      refine ⟨x, ?_, ?_, e⟩
      · refine Rat.not_lt.mp fun hv => ?_
        have := Rat.mul_pos (show 0 < -x by grind) qp
        grind
      · refine Rat.not_lt.mp fun hv => ?_
        have := Rat.mul_pos (show 0 < x - 1 by grind) qp
        grind
  rcases hz with hz | hz | hz | hz | hz | hz
  · obtain ⟨x, x0, x1, e⟩ := quot a3 (show t ≤ r by grind)
    exact ⟨((0, 0), (0, r)), by simp [edges], x, x0, x1, by unfold mid; ext <;> grind⟩
  · obtain ⟨x, x0, x1, e⟩ := quot a1 (show s ≤ r by grind)
    exact ⟨((r, 0), (0, 0)), by simp [edges], 1 - x, by grind, by grind, by unfold mid; ext <;> grind⟩
  · obtain ⟨x, x0, x1, e⟩ := quot (show 0 ≤ 1 - t by grind) (show 1 - t ≤ r by grind)
    exact ⟨((1, 1), (1, 1 - r)), by simp [edges], x, by grind, by grind, by unfold mid; ext <;> grind⟩
  · obtain ⟨x, x0, x1, e⟩ := quot (show 0 ≤ 1 - s by grind) (show 1 - s ≤ r by grind)
    exact ⟨((1 - r, 1), (1, 1)), by simp [edges], 1 - x, by grind, by grind, by unfold mid; ext <;> grind⟩
  · obtain ⟨x, x0, x1, e⟩ := quot a3 (show t ≤ 1 - r by grind)
    exact ⟨((1, 1 - r), (r, 0)), by simp [edges], 1 - x, by grind, by grind, by unfold mid; ext <;> grind⟩
  · obtain ⟨x, x0, x1, e⟩ := quot a1 (show s ≤ 1 - r by grind)
    exact ⟨((0, r), (1 - r, 1)), by simp [edges], x, by grind, by grind, by unfold mid; ext <;> grind⟩
theorem edge_min {e : Pt × Pt} (he : e ∈ edges r) (h0 : 0 ≤ x) (h1 : x ≤ 1) : ∃ z, Cand l m r z ∧ Q l m z ≤ Q l m (mid e.1 e.2 x) := by
  by_cases hC : Cq l m e.1 e.2 = 0
  · exact ⟨e.1, .inl ⟨e, he, rfl⟩, by rw [Q_flat hC]; exact Rat.le_refl⟩
  · obtain ⟨y, hy⟩ := best_ex hC
    exact ⟨y, .inr (.inl ⟨e, he, hy⟩), (best_le hy h0 h1).1⟩
theorem H_of {p : Pt} (h : ∀ q ∈ [p.1, p.2, 1 - p.1, 1 - p.2, r - (p.1 - p.2), r - (p.2 - p.1)], (0 : Rat) ≤ q) : H r p := by
  simp only [List.mem_cons, List.not_mem_nil, or_false, forall_eq_or_imp, forall_eq] at h
  obtain ⟨h1, h2, h3, h4, h5, h6⟩ := h
  unfold H
  grind
/-- towards a place outside that is no farther, a side is met -/
theorem out_min (h0 : 0 ≤ r) (h1 : r ≤ 1) (hz : H r z) (hy : ¬ H r y) (hq : ∀ u : Rat, 0 ≤ u → u ≤ 1 → Q l m (mid z y u) ≤ Q l m z) : ∃ w, Cand l m r w ∧ Q l m w ≤ Q l m z := by
  obtain ⟨⟨a1, a2⟩, ⟨a3, a4⟩, a5, a6⟩ := id hz
  rcases exit_list [(z.1, y.1), (z.2, y.2), (1 - z.1, 1 - y.1), (1 - z.2, 1 - y.2), (r - (z.1 - z.2), r - (y.1 - y.2)), (r - (z.2 - z.1), r - (y.2 - y.1))] (by
    simp only [List.mem_cons, List.not_mem_nil, or_false, forall_eq_or_imp, forall_eq]
    grind) with a | ⟨u, u0, u1, a, b⟩
  · refine absurd (H_of ?_) hy
    simp only [List.mem_cons, List.not_mem_nil, or_false, forall_eq_or_imp, forall_eq] at a ⊢
    exact a
  · simp only [List.mem_cons, List.not_mem_nil, or_false, forall_eq_or_imp, forall_eq] at a
    have hm : H r (mid z y u) := H_of (by
      simp only [List.mem_cons, List.not_mem_nil, or_false, forall_eq_or_imp, forall_eq]
      unfold mid
      dsimp only
      grind)
    have hb : (mid z y u).1 = 0 ∨ (mid z y u).2 = 0 ∨ 1 - (mid z y u).1 = 0 ∨ 1 - (mid z y u).2 = 0 ∨ r - ((mid z y u).1 - (mid z y u).2) = 0 ∨ r - ((mid z y u).2 - (mid z y u).1) = 0 := by
      simp only [List.mem_cons, List.not_mem_nil, or_false, exists_eq_or_imp, exists_eq_left] at b
      unfold mid
      dsimp only
      grind
    obtain ⟨e, he, x, x0, x1, ex⟩ := edge_of h0 h1 hm hb
    obtain ⟨w, w1, w2⟩ := edge_min (l := l) (m := m) he x0 x1
    refine ⟨w, w1, Rat.le_trans w2 ?_⟩
    rw [← ex]
    exact hq u u0 u1
theorem meet_ex (ht : turnR l m ≠ 0) : ∃ y, Meet l m y := by
  unfold Meet turnR at *
  generalize hT : ((l.2.1 : Rat) - (l.1.1 : Rat)) * ((m.2.2 : Rat) - (m.1.2 : Rat)) - ((l.2.2 : Rat) - (l.1.2 : Rat)) * ((m.2.1 : Rat) - (m.1.1 : Rat)) = t at *
  refine ⟨((((m.1.1 : Rat) - (l.1.1 : Rat)) * ((m.2.2 : Rat) - (m.1.2 : Rat)) - ((m.1.2 : Rat) - (l.1.2 : Rat)) * ((m.2.1 : Rat) - (m.1.1 : Rat))) / t, (((m.1.1 : Rat) - (l.1.1 : Rat)) * ((l.2.2 : Rat) - (l.1.2 : Rat)) - ((m.1.2 : Rat) - (l.1.2 : Rat)) * ((l.2.1 : Rat) - (l.1.1 : Rat))) / t), ht, ?_, ?_⟩
  · unfold gx
    dsimp only
    generalize (l.1.1 : Rat) = a1 at *
    generalize (l.1.2 : Rat) = a2 at *
    generalize (l.2.1 : Rat) = a3 at *
    generalize (l.2.2 : Rat) = a4 at *
    generalize (m.1.1 : Rat) = b1 at *
    generalize (m.1.2 : Rat) = b2 at *
    generalize (m.2.1 : Rat) = b3 at *
    generalize (m.2.2 : Rat) = b4 at *
    grind
  · unfold gy
    dsimp only
    generalize (l.1.1 : Rat) = a1 at *
    generalize (l.1.2 : Rat) = a2 at *
    generalize (l.2.1 : Rat) = a3 at *
    generalize (l.2.2 : Rat) = a4 at *
    generalize (m.1.1 : Rat) = b1 at *
    generalize (m.1.2 : Rat) = b2 at *
    generalize (m.2.1 : Rat) = b3 at *
    generalize (m.2.2 : Rat) = b4 at *
    grind
theorem Q_meet (h : Meet l m y) : Q l m y = 0 := by
  obtain ⟨_, h1, h2⟩ := h
  unfold Q
  rw [h1, h2]
  grind
/-- if the legs are level, there is a way along which nothing changes -/
theorem level_way (ht : turnR l m = 0) : ∃ v : Pt, (v.1 ≠ 0 ∨ v.2 ≠ 0) ∧ v.2 * ((m.2.1 : Rat) - (m.1.1 : Rat)) - v.1 * ((l.2.1 : Rat) - (l.1.1 : Rat)) = 0 ∧ v.2 * ((m.2.2 : Rat) - (m.1.2 : Rat)) - v.1 * ((l.2.2 : Rat) - (l.1.2 : Rat)) = 0 := by
  unfold turnR at ht
  generalize (l.2.1 : Rat) - (l.1.1 : Rat) = a at *
  generalize (l.2.2 : Rat) - (l.1.2 : Rat) = b at *
  generalize (m.2.1 : Rat) - (m.1.1 : Rat) = c at *
  generalize (m.2.2 : Rat) - (m.1.2 : Rat) = d at *
  by_cases hz : c * c + d * d = 0
  · have p := sqr_nonneg c
    have q := sqr_nonneg d
    have c0 := sqr_zero (show c * c = 0 by grind)
    have d0 := sqr_zero (show d * d = 0 by grind)
    exact ⟨(0, 1), .inr (by decide), by rw [c0]; grind, by rw [d0]; grind⟩
  · refine ⟨(c * c + d * d, a * c + b * d), .inl hz, ?_, ?_⟩
    · dsimp only
      have e : (a * c + b * d) * c - (c * c + d * d) * a = -d * (a * d - b * c) := by grind
      rw [e, ht]
      grind
    · dsimp only
      have e : (a * c + b * d) * d - (c * c + d * d) * b = c * (a * d - b * c) := by grind
      rw [e, ht]
      grind
theorem Q_along {v : Pt} {k : Rat} (h1 : v.2 * ((m.2.1 : Rat) - (m.1.1 : Rat)) - v.1 * ((l.2.1 : Rat) - (l.1.1 : Rat)) = 0) (h2 : v.2 * ((m.2.2 : Rat) - (m.1.2 : Rat)) - v.1 * ((l.2.2 : Rat) - (l.1.2 : Rat)) = 0) : Q l m (z.1 + k * v.1, z.2 + k * v.2) = Q l m z := by
  have e1 : gx l m (z.1 + k * v.1, z.2 + k * v.2) = gx l m z + k * (v.2 * ((m.2.1 : Rat) - (m.1.1 : Rat)) - v.1 * ((l.2.1 : Rat) - (l.1.1 : Rat))) := by
    unfold gx
    dsimp only
    grind
  have e2 : gy l m (z.1 + k * v.1, z.2 + k * v.2) = gy l m z + k * (v.2 * ((m.2.2 : Rat) - (m.1.2 : Rat)) - v.1 * ((l.2.2 : Rat) - (l.1.2 : Rat))) := by
    unfold gy
    dsimp only
    grind
  unfold Q
  rw [e1, e2, h1, h2]
  grind
theorem div3 {v : Rat} (hv : v ≠ 0) : (3 : Rat) / v * v = 3 := by grind
theorem out3 {a : Rat} (h : a + 3 ≤ 1) (h0 : 0 ≤ a) : False := by grind
/-- nothing in the field is nearer -/
theorem near_min (h0 : 0 ≤ r) (h1 : r ≤ 1) {a : Tr} (h : Near l m r a) (hz : H r z) : a.1 ≤ Q l m z := by
  have key : ∃ w, Cand l m r w ∧ Q l m w ≤ Q l m z := by
    by_cases ht : turnR l m = 0
    · obtain ⟨v, hv, v1, v2⟩ := level_way ht
      obtain ⟨⟨a1, a2⟩, ⟨a3, a4⟩, a5, a6⟩ := id hz
      rcases hv with hv | hv
      · refine out_min (y := (z.1 + 3 / v.1 * v.1, z.2 + 3 / v.1 * v.2)) h0 h1 hz (fun hy => ?_) fun u u0 u1 => ?_
        · have e3 : (3 : Rat) / v.1 * v.1 = 3 := div3 hv
          have := hy.1.2
          dsimp only at this
          rw [e3] at this
          exact out3 this a1
        · have e : mid z (z.1 + 3 / v.1 * v.1, z.2 + 3 / v.1 * v.2) u = (z.1 + (u * (3 / v.1)) * v.1, z.2 + (u * (3 / v.1)) * v.2) := by unfold mid; ext <;> (dsimp only; grind)
          rw [e, Q_along v1 v2]
          exact Rat.le_refl
      · refine out_min (y := (z.1 + 3 / v.2 * v.1, z.2 + 3 / v.2 * v.2)) h0 h1 hz (fun hy => ?_) fun u u0 u1 => ?_
        · have e3 : (3 : Rat) / v.2 * v.2 = 3 := div3 hv
          have := hy.2.1.2
          dsimp only at this
          rw [e3] at this
          exact out3 this a3
        · have e : mid z (z.1 + 3 / v.2 * v.1, z.2 + 3 / v.2 * v.2) u = (z.1 + (u * (3 / v.2)) * v.1, z.2 + (u * (3 / v.2)) * v.2) := by unfold mid; ext <;> (dsimp only; grind)
          rw [e, Q_along v1 v2]
          exact Rat.le_refl
    · obtain ⟨y, hy⟩ := meet_ex ht
      by_cases hH : H r y
      · exact ⟨y, .inr (.inr ⟨hH, hy⟩), by rw [Q_meet hy]; exact Q_nonneg l m z⟩
      · refine out_min h0 h1 hz hH fun u u0 u1 => ?_
        obtain ⟨_, g1, g2⟩ := hy
        have e : Q l m (mid z y u) = (1 - u) * (1 - u) * Q l m z := by
          unfold Q
          rw [gx_mid, gy_mid, g1, g2]
          grind
        rw [e]
        have q := Q_nonneg l m z
        have s : (1 - u) * (1 - u) ≤ 1 := by
          have := Rat.mul_nonneg u0 (show 0 ≤ 2 - u by grind)
          grind
        have := Rat.mul_nonneg (show 0 ≤ 1 - (1 - u) * (1 - u) by grind) q
        grind
  obtain ⟨w, w1, w2⟩ := key
  have := h.2 w w1
  unfold lexLe T at this
  dsimp only at this
  grind
/-! ### the sides walked the other way, the lesser end told of a level side -/
def Flat (l m : Leg) (e : Pt × Pt) (w : Pt) : Prop := Cq l m e.1 e.2 = 0 ∧ (w = e.1 ∨ w = e.2) ∧ lexLe (T l m w) (T l m e.1) ∧ lexLe (T l m w) (T l m e.2)
def LawC (l m : Leg) (r : Rat) (w : Pt) : Prop := (∃ e ∈ edges r, Flat l m e w ∨ Best l m e.1 e.2 w) ∨ (H r w ∧ Meet l m w)
theorem edges_2 : ∀ e ∈ edges r, ∃ f ∈ edges r, e.2 = f.1 := by
  intro e he
  simp only [edges, List.mem_cons, List.not_mem_nil, or_false] at he ⊢
  rcases he with rfl | rfl | rfl | rfl | rfl | rfl <;> simp
theorem lawc_cand (h : LawC l m r z) : Cand l m r z := by
  rcases h with ⟨e, he, ⟨_, rfl | rfl, _⟩ | h⟩ | h
  · exact .inl ⟨e, he, rfl⟩
  · obtain ⟨f, hf, e2⟩ := edges_2 e he
    exact .inl ⟨f, hf, e2⟩
  · exact .inr (.inl ⟨e, he, h⟩)
  · exact .inr (.inr h)
theorem flat_ex {e : Pt × Pt} (hC : Cq l m e.1 e.2 = 0) : ∃ w, Flat l m e w := by
  rcases lexLe_tot (T l m e.1) (T l m e.2) with h | h
  · exact ⟨e.1, hC, .inl rfl, lexLe_refl _, h⟩
  · exact ⟨e.2, hC, .inr rfl, h, lexLe_refl _⟩
theorem cand_lawc (h : Cand l m r z) : ∃ w, LawC l m r w ∧ lexLe (T l m w) (T l m z) := by
  rcases h with ⟨e, he, rfl⟩ | ⟨e, he, h⟩ | h
  · by_cases hC : Cq l m e.1 e.2 = 0
    · obtain ⟨w, hw⟩ := flat_ex hC
      exact ⟨w, .inl ⟨e, he, .inl hw⟩, hw.2.2.1⟩
    · obtain ⟨y, hy⟩ := best_ex hC
      refine ⟨y, .inl ⟨e, he, .inr hy⟩, ?_⟩
      obtain ⟨a, b⟩ := best_le (u := 0) hy (by grind) (by grind)
      have e0 : mid e.1 e.2 0 = e.1 := by unfold mid; ext <;> grind
      rw [e0] at a b
      by_cases hq : Q l m y = Q l m e.1
      · rw [b hq]
        exact lexLe_refl _
      · refine .inl ?_
        show Q l m y < Q l m e.1
        grind
  · exact ⟨z, .inl ⟨e, he, .inr h⟩, lexLe_refl _⟩
  · exact ⟨z, .inr h, lexLe_refl _⟩
/-- the least of the law's places is the least of all -/
theorem near_law {a : Tr} (h1 : ∃ y, LawC l m r y ∧ a = T l m y) (h2 : ∀ z, LawC l m r z → lexLe a (T l m z)) : Near l m r a := by
  obtain ⟨y, hy, ea⟩ := h1
  refine ⟨⟨y, lawc_cand hy, ea⟩, fun z hz => ?_⟩
  obtain ⟨w, w1, w2⟩ := cand_lawc hz
  exact lexLe_tr (h2 w w1) w2
end
/-! ### legs turned and made greater -/
def led (k dx dy : Int) (c : Col) : Col := (-k * c.2 + dx, k * c.1 + dy)
def ledL (k dx dy : Int) (l : Leg) : Leg := (led k dx dy l.1, led k dx dy l.2)
section
variable {l m : Leg} {r x u : Rat} {c d y z p : Pt} {k dx dy : Int}
theorem gx_led : gx (ledL k dx dy l) (ledL k dx dy m) p = -(k : Rat) * gy l m p := by
  unfold gx gy ledL led
  dsimp only
  simp only [Rat.intCast_add, Rat.intCast_mul, Rat.intCast_neg]
  grind
theorem gy_led : gy (ledL k dx dy l) (ledL k dx dy m) p = (k : Rat) * gx l m p := by
  unfold gx gy ledL led
  dsimp only
  simp only [Rat.intCast_add, Rat.intCast_mul, Rat.intCast_neg]
  grind
theorem turn_led : turnR (ledL k dx dy l) (ledL k dx dy m) = (k : Rat) * k * turnR l m := by
  unfold turnR ledL led
  dsimp only
  simp only [Rat.intCast_add, Rat.intCast_mul, Rat.intCast_neg]
  grind
theorem Q_led : Q (ledL k dx dy l) (ledL k dx dy m) p = (k : Rat) * k * Q l m p := by
  unfold Q
  rw [gx_led, gy_led]
  grind
theorem C_led : Cq (ledL k dx dy l) (ledL k dx dy m) c d = (k : Rat) * k * Cq l m c d := by
  unfold Cq
  simp only [gx_led, gy_led]
  grind
theorem B_led : Bq (ledL k dx dy l) (ledL k dx dy m) c d = (k : Rat) * k * Bq l m c d := by
  unfold Bq
  simp only [gx_led, gy_led]
  grind
theorem best_led (hk : 0 < k) : Best (ledL k dx dy l) (ledL k dx dy m) c d y ↔ Best l m c d y := by
  have k0 := cast_pos hk
  have kk := Rat.mul_pos k0 k0
  unfold Best
  rw [C_led, B_led]
  generalize Cq l m c d = C at *
  generalize Bq l m c d = B at *
  generalize (k : Rat) * k = q at *
  have e1 : 0 < q * C ↔ 0 < C := ⟨fun h => Rat.not_le.mp fun n => by have := Rat.mul_nonneg (Rat.le_of_lt kk) (show 0 ≤ -C by grind); grind, fun h => Rat.mul_pos kk h⟩
  have e2 : ∀ v : Rat, q * v = 0 ↔ v = 0 := fun v => ⟨fun h => (Rat.mul_eq_zero.mp h).elim (fun z => by grind) id, fun h => by rw [h]; grind⟩
  have e3 : ∀ v : Rat, 0 ≤ q * v ↔ 0 ≤ v := fun v => ⟨fun h => Rat.not_lt.mp fun n => by have := Rat.mul_pos kk (show 0 < -v by grind); grind, fun h => Rat.mul_nonneg (Rat.le_of_lt kk) h⟩
  constructor
  · rintro ⟨x, x0, x1, ex, hC, hx⟩
    refine ⟨x, x0, x1, ex, e1.mp hC, ?_⟩
    rcases hx with h | ⟨h1, h2⟩ | ⟨h1, h2⟩
    · exact .inl ((e2 _).mp (by grind))
    · exact .inr (.inl ⟨h1, (e3 _).mp h2⟩)
    · have := (e3 (-(C + B))).mp (by grind)
      exact .inr (.inr ⟨h1, by grind⟩)
  · rintro ⟨x, x0, x1, ex, hC, hx⟩
    refine ⟨x, x0, x1, ex, e1.mpr hC, ?_⟩
    rcases hx with h | ⟨h1, h2⟩ | ⟨h1, h2⟩
    · have := (e2 _).mpr h
      exact .inl (by grind)
    · exact .inr (.inl ⟨h1, (e3 _).mpr h2⟩)
    · have := (e3 (-(C + B))).mpr (by grind)
      exact .inr (.inr ⟨h1, by grind⟩)
theorem meet_led (hk : 0 < k) : Meet (ledL k dx dy l) (ledL k dx dy m) y ↔ Meet l m y := by
  have k0 := cast_pos hk
  unfold Meet
  rw [turn_led, gx_led, gy_led]
  have e2 : ∀ v : Rat, (k : Rat) * v = 0 ↔ v = 0 := fun v => ⟨fun h => (Rat.mul_eq_zero.mp h).elim (fun z => by grind) id, fun h => by rw [h]; grind⟩
  constructor
  · rintro ⟨h1, h2, h3⟩
    refine ⟨fun z => h1 (by rw [z]; grind), (e2 _).mp h3, (e2 _).mp (by grind)⟩
  · rintro ⟨h1, h2, h3⟩
    refine ⟨fun z => ?_, by rw [h3]; grind, by rw [h2]; grind⟩
    rcases Rat.mul_eq_zero.mp z with z | z
    · rcases Rat.mul_eq_zero.mp z with z | z <;> grind
    · exact h1 z
theorem cand_led (hk : 0 < k) : Cand (ledL k dx dy l) (ledL k dx dy m) r z ↔ Cand l m r z := by
  unfold Cand
  simp only [best_led hk, meet_led hk]
theorem near_led (hk : 0 < k) {a : Tr} (h : Near l m r a) : Near (ledL k dx dy l) (ledL k dx dy m) r ((k : Rat) * k * a.1, a.2) := by
  obtain ⟨⟨y, hy, rfl⟩, h2⟩ := h
  have k0 := cast_pos hk
  have kk := Rat.mul_pos k0 k0
  refine ⟨⟨y, (cand_led hk).mpr hy, ?_⟩, fun z hz => ?_⟩
  · unfold T
    rw [Q_led]
  · have := h2 z ((cand_led hk).mp hz)
    unfold lexLe T at *
    rw [Q_led]
    dsimp only at *
    rcases this with g | ⟨g1, g2⟩
    · have := Rat.mul_pos kk (show 0 < Q l m z - Q l m y by grind)
      exact .inl (by grind)
    · exact .inr ⟨by rw [g1], g2⟩
theorem Q_swap : Q m l (p.2, p.1) = Q l m p := by
  have e1 : gx m l (p.2, p.1) = -gx l m p := by unfold gx; dsimp only; grind
  have e2 : gy m l (p.2, p.1) = -gy l m p := by unfold gy; dsimp only; grind
  unfold Q
  rw [e1, e2]
  grind
theorem near_swap (h0 : 0 ≤ r) (h1 : r ≤ 1) {a b : Tr} (h : Near l m r a) (g : Near m l r b) : a.1 = b.1 := by
  have sw : ∀ {p : Pt}, H r p → H r (p.2, p.1) := fun {p} hp => by
    obtain ⟨a, b, c, d⟩ := hp
    exact ⟨b, a, d, c⟩
  obtain ⟨y, hy, ea⟩ := id h.1
  obtain ⟨z, hz, eb⟩ := id g.1
  have p := near_min h0 h1 h (sw (cand_H h0 h1 hz))
  have q := near_min h0 h1 g (sw (cand_H h0 h1 hy))
  rw [Q_swap] at p q
  subst ea eb
  exact Rat.le_antisymm p q
end
end Frac

/-! fractions told of places on legs; how long they are -/
namespace Frac
variable [Dl.LamT]
open PySem L2 Dl
def placeF (l : Leg) (s : Fr) : Fr × Fr := (addF (l.1.1, 1) (mulF s (l.2.1 - l.1.1, 1)), addF (l.1.2, 1) (mulF s (l.2.2 - l.1.2, 1)))
def gapF (l m : Leg) (s t : Fr) : Fr × Fr := (lesF (placeF m t).1 (placeF l s).1, lesF (placeF m t).2 (placeF l s).2)
def dotF (u v : Fr × Fr) : Fr := addF (mulF u.1 v.1) (mulF u.2 v.2)
def sqF (l m : Leg) (s t : Fr) : Fr := dotF (gapF l m s t) (gapF l m s t)
def Bc (c : Col) : Prop := (-1048576 < c.1 ∧ c.1 < 1048576) ∧ (-1048576 < c.2 ∧ c.2 < 1048576)
def Bl (l : Leg) : Prop := Bc l.1 ∧ Bc l.2
theorem lt_c {i : Int} (h1 : -1048576 < i) (h2 : i < 1048576) : Lt 20 i := lt_of (Nat.lt_of_lt_of_le (show i.natAbs < 1048576 by omega) (by decide))
theorem lt_cc {i j : Int} (h1 : -1048576 < i ∧ i < 1048576) (h2 : -1048576 < j ∧ j < 1048576) : Lt 21 (i - j) := lt_of (Nat.lt_of_lt_of_le (show (i - j).natAbs < 2097152 by omega) (by decide))
section
variable {l m : Leg} {s t : Fr}
theorem pos_low {n d : Int} (hd : d ≠ 0) : 0 < (lowF n d).2 := (low_ok (n := n) hd).1.1
theorem pos_add {f g : Fr} (hf : 0 < f.2) (hg : 0 < g.2) : 0 < (addF f g).2 := (rd_add hf hg).1
theorem pos_les {f g : Fr} (hf : 0 < f.2) (hg : 0 < g.2) : 0 < (lesF f g).2 := (rd_les hf hg).1
theorem pos_mul {f g : Fr} (hf : 0 < f.2) (hg : 0 < g.2) : 0 < (mulF f g).2 := (rd_mul hf hg).1
theorem one_pos : (0 : Int) < 1 := by decide
theorem pos_place (l : Leg) (hs : 0 < s.2) : 0 < (placeF l s).1.2 ∧ 0 < (placeF l s).2.2 := ⟨pos_add one_pos (pos_mul hs one_pos), pos_add one_pos (pos_mul hs one_pos)⟩
theorem val_place (l : Leg) (hs : 0 < s.2) : val (placeF l s).1 = (l.1.1 : Rat) + val s * ((l.2.1 : Rat) - (l.1.1 : Rat)) ∧ val (placeF l s).2 = (l.1.2 : Rat) + val s * ((l.2.2 : Rat) - (l.1.2 : Rat)) := by
  unfold placeF
  dsimp only
  rw [val_add (f := (l.1.1, 1)) one_pos (pos_mul hs one_pos), val_add (f := (l.1.2, 1)) one_pos (pos_mul hs one_pos), val_mul hs one_pos, val_mul hs one_pos, val_int, val_int, val_int, val_int, Rat.intCast_sub, Rat.intCast_sub]
  exact ⟨rfl, rfl⟩
theorem pos_gap (l m : Leg) (hs : 0 < s.2) (ht : 0 < t.2) : 0 < (gapF l m s t).1.2 ∧ 0 < (gapF l m s t).2.2 := ⟨pos_les (pos_place m ht).1 (pos_place l hs).1, pos_les (pos_place m ht).2 (pos_place l hs).2⟩
theorem rd_gap (l m : Leg) (hs : 0 < s.2) (ht : 0 < t.2) : Rd (gapF l m s t).1 ∧ Rd (gapF l m s t).2 := ⟨rd_les (pos_place m ht).1 (pos_place l hs).1, rd_les (pos_place m ht).2 (pos_place l hs).2⟩
theorem val_gap (l m : Leg) (hs : 0 < s.2) (ht : 0 < t.2) : val (gapF l m s t).1 = gx l m (val s, val t) ∧ val (gapF l m s t).2 = gy l m (val s, val t) := by
  unfold gapF gx gy
  dsimp only
  rw [val_les (pos_place m ht).1 (pos_place l hs).1, val_les (pos_place m ht).2 (pos_place l hs).2, (val_place m ht).1, (val_place m ht).2, (val_place l hs).1, (val_place l hs).2]
  exact ⟨rfl, rfl⟩
theorem val_dot {u v : Fr × Fr} (h1 : 0 < u.1.2 ∧ 0 < u.2.2) (h2 : 0 < v.1.2 ∧ 0 < v.2.2) : val (dotF u v) = val u.1 * val v.1 + val u.2 * val v.2 := by
  unfold dotF
  rw [val_add (pos_mul h1.1 h2.1) (pos_mul h1.2 h2.2), val_mul h1.1 h2.1, val_mul h1.2 h2.2]
theorem rd_dot {u v : Fr × Fr} (h1 : 0 < u.1.2 ∧ 0 < u.2.2) (h2 : 0 < v.1.2 ∧ 0 < v.2.2) : Rd (dotF u v) := rd_add (pos_mul h1.1 h2.1) (pos_mul h1.2 h2.2)
theorem val_sq (l m : Leg) (hs : 0 < s.2) (ht : 0 < t.2) : val (sqF l m s t) = Q l m (val s, val t) := by
  unfold sqF Q
  rw [val_dot (pos_gap l m hs ht) (pos_gap l m hs ht), (val_gap l m hs ht).1, (val_gap l m hs ht).2]
theorem rd_sq (l m : Leg) (hs : 0 < s.2) (ht : 0 < t.2) : Rd (sqF l m s t) := rd_dot (pos_gap l m hs ht) (pos_gap l m hs ht)
end
def vC (c : Cor) : Pt := (val c.1, val c.2)
abbrev Rw := Fr × Fr × Fr
def vT (r : Rw) : Tr := (val r.1, val r.2.1, val r.2.2)
def RdT (r : Rw) : Prop := Rd r.1 ∧ Rd r.2.1 ∧ Rd r.2.2
theorem vT_inj {a b : Rw} (h : RdT a) (g : RdT b) (e : vT a = vT b) : a = b := by
  obtain ⟨a1, a2, a3⟩ := a
  obtain ⟨b1, b2, b3⟩ := b
  unfold vT at e
  dsimp only at e
  injection e with e1 e2
  injection e2 with e2 e3
  have q1 : a1 = b1 := val_inj h.1 g.1 e1
  have q2 : a2 = b2 := val_inj h.2.1 g.2.1 e2
  have q3 : a3 = b3 := val_inj h.2.2 g.2.2 e3
  rw [q1, q2, q3]
/-! ### how long -/
/-- both parts over one short number -/
def Form (p : Pt) : Prop := ∃ N X Y : Int, 0 < N ∧ N < 2 ^ 138 ∧ p = ((X : Rat) / N, (Y : Rat) / N)
theorem form_of {N X Y : Int} {p : Pt} (h0 : 0 < N) (h1 : N < 2 ^ 138) (e1 : p.1 * N = X) (e2 : p.2 * N = Y) : Form p := by
  have n0 := cast_ne (Int.ne_of_gt h0)
  refine ⟨N, X, Y, h0, h1, ?_⟩
  rw [← e1, ← e2]
  ext
  · dsimp only
    grind
  · dsimp only
    grind
section
variable {l m : Leg} {r : Rat} {n d : Int} {z : Pt}
theorem edges_form (hd : 0 < d) (hr : r * d = n) : ∀ e ∈ edges r, ∃ x y x' y' : Int, (e.1.1 * d = x ∧ e.1.2 * d = y) ∧ (e.2.1 * d = x' ∧ e.2.2 * d = y') := by
  intro e he
  have c0 : (0 : Rat) * d = ((0 : Int) : Rat) := by rw [Rat.intCast_zero]; grind
  have c1 : (1 : Rat) * d = ((d : Int) : Rat) := by grind
  have c2 : (1 - r) * d = ((d - n : Int) : Rat) := by rw [Rat.intCast_sub]; grind
  simp only [edges, List.mem_cons, List.not_mem_nil, or_false] at he
  rcases he with rfl | rfl | rfl | rfl | rfl | rfl
  · exact ⟨_, _, _, _, ⟨c0, c0⟩, c0, hr⟩
  · exact ⟨_, _, _, _, ⟨c0, hr⟩, c2, c1⟩
  · exact ⟨_, _, _, _, ⟨c2, c1⟩, c1, c1⟩
  · exact ⟨_, _, _, _, ⟨c1, c1⟩, c1, c2⟩
  · exact ⟨_, _, _, _, ⟨c1, c2⟩, hr, c0⟩
  · exact ⟨_, _, _, _, ⟨hr, c0⟩, c0, c0⟩
theorem cast_le {a b : Int} (h : (a : Rat) ≤ (b : Rat)) : a ≤ b := Rat.intCast_le_intCast.mp h
/-- between 0 and d -/
theorem unit_of {q : Rat} {x : Int} (hd : 0 < d) (e : q * d = x) (h0 : 0 ≤ q) (h1 : q ≤ 1) : 0 ≤ x ∧ x ≤ d := by
  have dp := cast_pos hd
  constructor
  · refine cast_le ?_
    rw [Rat.intCast_zero, ← e]
    exact Rat.mul_nonneg h0 (Rat.le_of_lt dp)
  · refine cast_le ?_
    have := Rat.mul_nonneg (show 0 ≤ 1 - q by grind) (Rat.le_of_lt dp)
    rw [← e]
    grind
theorem prod_lt {a b : Int} {p q : Nat} (ha : a.natAbs < 2 ^ p) (hb : b.natAbs < 2 ^ q) : (a * b).natAbs < 2 ^ (p + q) := wide_lt ha hb
theorem cand_form (hl : Bl l) (hm : Bl m) (h0 : 0 ≤ r) (h1 : r ≤ 1) (hd : 0 < d) (hd2 : d ≤ 1073741824) (hr : r * d = n) (h : Cand l m r z) : Form z := by
  obtain ⟨⟨⟨l1, l2⟩, l3, l4⟩, ⟨l5, l6⟩, l7, l8⟩ := hl
  obtain ⟨⟨⟨m1, m2⟩, m3, m4⟩, ⟨m5, m6⟩, m7, m8⟩ := hm
  rcases h with ⟨e, he, rfl⟩ | ⟨e, he, x, x0, x1, rfl, hC, hx⟩ | ⟨hH, ht, g1, g2⟩
  · obtain ⟨x, y, _, _, ⟨a, b⟩, _⟩ := edges_form hd hr e he
    exact form_of hd (by omega) a b
  · obtain ⟨cx, cy, dx, dy, ⟨a1, a2⟩, b1, b2⟩ := edges_form hd hr e he
    obtain ⟨Hc, Hd⟩ := edges_H h0 h1 e he
    have k1 := unit_of hd a1 Hc.1.1 Hc.1.2
    have k2 := unit_of hd a2 Hc.2.1.1 Hc.2.1.2
    have k3 := unit_of hd b1 Hd.1.1 Hd.1.2
    have k4 := unit_of hd b2 Hd.2.1.1 Hd.2.1.2
    rcases hx with hx | ⟨rfl, _⟩ | ⟨rfl, _⟩
    · obtain ⟨c, d'⟩ := e
      obtain ⟨p1, p2⟩ := c
      obtain ⟨q1, q2⟩ := d'
      dsimp only at *
      have dp := cast_pos hd
      -- the changes over d
      have eX : (gx l m (q1, q2) - gx l m (p1, p2)) * d = (((dy - cy) * (m.2.1 - m.1.1) - (dx - cx) * (l.2.1 - l.1.1) : Int) : Rat) := by
        unfold gx
        simp only [Rat.intCast_sub, Rat.intCast_mul]
        rw [← a1, ← a2, ← b1, ← b2]
        grind
      have eY : (gy l m (q1, q2) - gy l m (p1, p2)) * d = (((dy - cy) * (m.2.2 - m.1.2) - (dx - cx) * (l.2.2 - l.1.2) : Int) : Rat) := by
        unfold gy
        simp only [Rat.intCast_sub, Rat.intCast_mul]
        rw [← a1, ← a2, ← b1, ← b2]
        grind
      have fX : gx l m (p1, p2) * d = ((d * (m.1.1 - l.1.1) + cy * (m.2.1 - m.1.1) - cx * (l.2.1 - l.1.1) : Int) : Rat) := by
        unfold gx
        simp only [Rat.intCast_sub, Rat.intCast_mul, Rat.intCast_add]
        rw [← a1, ← a2]
        grind
      have fY : gy l m (p1, p2) * d = ((d * (m.1.2 - l.1.2) + cy * (m.2.2 - m.1.2) - cx * (l.2.2 - l.1.2) : Int) : Rat) := by
        unfold gy
        simp only [Rat.intCast_sub, Rat.intCast_mul, Rat.intCast_add]
        rw [← a1, ← a2]
        grind
      have bX : ((dy - cy) * (m.2.1 - m.1.1) - (dx - cx) * (l.2.1 - l.1.1)).natAbs < 2 ^ 53 := by
        have p := prod_lt (p := 31) (q := 21) (a := dy - cy) (b := m.2.1 - m.1.1) (by omega) (by omega)
        have q := prod_lt (p := 31) (q := 21) (a := dx - cx) (b := l.2.1 - l.1.1) (by omega) (by omega)
        omega
      have bY : ((dy - cy) * (m.2.2 - m.1.2) - (dx - cx) * (l.2.2 - l.1.2)).natAbs < 2 ^ 53 := by
        have p := prod_lt (p := 31) (q := 21) (a := dy - cy) (b := m.2.2 - m.1.2) (by omega) (by omega)
        have q := prod_lt (p := 31) (q := 21) (a := dx - cx) (b := l.2.2 - l.1.2) (by omega) (by omega)
        omega
      generalize (dy - cy) * (m.2.1 - m.1.1) - (dx - cx) * (l.2.1 - l.1.1) = DX at *
      generalize (dy - cy) * (m.2.2 - m.1.2) - (dx - cx) * (l.2.2 - l.1.2) = DY at *
      generalize d * (m.1.1 - l.1.1) + cy * (m.2.1 - m.1.1) - cx * (l.2.1 - l.1.1) = GX at *
      generalize d * (m.1.2 - l.1.2) + cy * (m.2.2 - m.1.2) - cx * (l.2.2 - l.1.2) = GY at *
      have eC : Cq l m (p1, p2) (q1, q2) * d * d = ((DX * DX + DY * DY : Int) : Rat) := by
        unfold Cq
        simp only [Rat.intCast_add, Rat.intCast_mul]
        rw [← eX, ← eY]
        grind
      have eB : Bq l m (p1, p2) (q1, q2) * d * d = ((GX * DX + GY * DY : Int) : Rat) := by
        unfold Bq
        simp only [Rat.intCast_add, Rat.intCast_mul]
        rw [← eX, ← eY, ← fX, ← fY]
        grind
      have eN : x * ((DX * DX + DY * DY : Int) : Rat) = ((-(GX * DX + GY * DY) : Int) : Rat) := by
        rw [Rat.intCast_neg, ← eC, ← eB]
        grind
      have N0 : 0 < DX * DX + DY * DY := by
        have : (0 : Rat) < ((DX * DX + DY * DY : Int) : Rat) := by
          rw [← eC]
          exact Rat.mul_pos (Rat.mul_pos hC dp) dp
        have z : ((0 : Int) : Rat) < ((DX * DX + DY * DY : Int) : Rat) := by rw [Rat.intCast_zero]; exact this
        exact Rat.intCast_lt_intCast.mp z
      have N1 : (DX * DX + DY * DY).natAbs < 2 ^ 107 := by
        have p := prod_lt bX bX
        have q := prod_lt bY bY
        omega
      generalize DX * DX + DY * DY = N at *
      generalize -(GX * DX + GY * DY) = M at *
      refine form_of (N := d * N) (X := cx * N + M * (dx - cx)) (Y := cy * N + M * (dy - cy)) (Int.mul_pos hd N0) ?_ ?_ ?_
      · have := prod_lt (p := 31) (q := 107) (a := d) (b := N) (by omega) N1
        have : 0 < d * N := Int.mul_pos hd N0
        omega
      · unfold mid
        simp only [Rat.intCast_add, Rat.intCast_mul, Rat.intCast_sub]
        rw [← a1, ← b1, ← eN]
        grind
      · unfold mid
        simp only [Rat.intCast_add, Rat.intCast_mul, Rat.intCast_sub]
        rw [← a2, ← b2, ← eN]
        grind
    · have e0 : mid e.1 e.2 0 = e.1 := by unfold mid; ext <;> grind
      rw [e0]
      exact form_of hd (by omega) a1 a2
    · have e0 : mid e.1 e.2 1 = e.2 := by unfold mid; ext <;> grind
      rw [e0]
      exact form_of hd (by omega) b1 b2
  · have tz : turnR l m = (((l.2.1 - l.1.1) * (m.2.2 - m.1.2) - (l.2.2 - l.1.2) * (m.2.1 - m.1.1) : Int) : Rat) := by
      unfold turnR
      simp only [Rat.intCast_sub, Rat.intCast_mul]
    have bT : ((l.2.1 - l.1.1) * (m.2.2 - m.1.2) - (l.2.2 - l.1.2) * (m.2.1 - m.1.1)).natAbs < 2 ^ 43 := by
      have p := prod_lt (p := 21) (q := 21) (a := l.2.1 - l.1.1) (b := m.2.2 - m.1.2) (by omega) (by omega)
      have q := prod_lt (p := 21) (q := 21) (a := l.2.2 - l.1.2) (b := m.2.1 - m.1.1) (by omega) (by omega)
      omega
    have e1 : z.1 * turnR l m = (((m.1.1 - l.1.1) * (m.2.2 - m.1.2) - (m.1.2 - l.1.2) * (m.2.1 - m.1.1) : Int) : Rat) := by
      unfold gx at g1
      unfold gy at g2
      unfold turnR
      simp only [Rat.intCast_sub, Rat.intCast_mul]
      grind
    have e2 : z.2 * turnR l m = (((m.1.1 - l.1.1) * (l.2.2 - l.1.2) - (m.1.2 - l.1.2) * (l.2.1 - l.1.1) : Int) : Rat) := by
      unfold gx at g1
      unfold gy at g2
      unfold turnR
      simp only [Rat.intCast_sub, Rat.intCast_mul]
      grind
    rw [tz] at e1 e2 ht
    generalize (l.2.1 - l.1.1) * (m.2.2 - m.1.2) - (l.2.2 - l.1.2) * (m.2.1 - m.1.1) = N at *
    have hN : N ≠ 0 := fun h => ht (by rw [h, Rat.intCast_zero])
    by_cases hs : 0 < N
    · exact form_of hs (by omega) e1 e2
    · refine form_of (N := -N) (X := -((m.1.1 - l.1.1) * (m.2.2 - m.1.2) - (m.1.2 - l.1.2) * (m.2.1 - m.1.1))) (Y := -((m.1.1 - l.1.1) * (l.2.2 - l.1.2) - (m.1.2 - l.1.2) * (l.2.1 - l.1.1))) (by omega) (by omega) ?_ ?_
      · rw [Rat.intCast_neg, Rat.intCast_neg, ← e1]
        grind
      · rw [Rat.intCast_neg, Rat.intCast_neg, ← e2]
        grind
/-- the nearest is told with short numbers -/
theorem near_small {rho : Fr} (hl : Bl l) (hm : Bl m) (hu : 0 ≤ rho.1 ∧ rho.1 ≤ rho.2 ∧ 0 < rho.2 ∧ rho.2 ≤ 1073741824) {a : Rw} (ha : RdT a) (h : Near l m (val rho) (vT a)) : S 330 a.1 ∧ S 140 a.2.1 ∧ S 140 a.2.2 := by
  obtain ⟨u1, u2, u3, u4⟩ := hu
  have dp := cast_pos u3
  have hr : val rho * rho.2 = (rho.1 : Rat) := by unfold val; grind
  have nn : (0 : Rat) ≤ (rho.1 : Rat) := by
    have := Rat.intCast_le_intCast.mpr u1
    rw [Rat.intCast_zero] at this
    exact this
  have nd : (rho.1 : Rat) ≤ (rho.2 : Rat) := Rat.intCast_le_intCast.mpr u2
  have h0 : 0 ≤ val rho := Rat.not_lt.mp fun hn => by
    have := Rat.mul_pos (show 0 < -val rho by grind) dp
    grind
  have h1 : val rho ≤ 1 := Rat.not_lt.mp fun hn => by
    have := Rat.mul_pos (show 0 < val rho - 1 by grind) dp
    grind
  obtain ⟨⟨z, hz, ez⟩, _⟩ := h
  obtain ⟨N, X, Y, n0, n1, zf⟩ := cand_form hl hm h0 h1 u3 u4 hr hz
  have zH := cand_H h0 h1 hz
  have np := cast_pos n0
  unfold vT T at ez
  injection ez with e1 e2
  injection e2 with e2 e3
  have x1 : z.1 * N = X := by rw [zf]; grind
  have y1 : z.2 * N = Y := by rw [zf]; grind
  have bX := unit_of n0 x1 zH.1.1 zH.1.2
  have bY := unit_of n0 y1 zH.2.1.1 zH.2.1.2
  have s1 := rd_small ha.2.1 n0 (e2.trans (by rw [zf]))
  have s2 := rd_small ha.2.2 n0 (e3.trans (by rw [zf]))
  obtain ⟨⟨⟨l1, l2⟩, l3, l4⟩, ⟨l5, l6⟩, l7, l8⟩ := hl
  obtain ⟨⟨⟨m1, m2⟩, m3, m4⟩, ⟨m5, m6⟩, m7, m8⟩ := hm
  have qx : gx l m z * N = ((N * (m.1.1 - l.1.1) + Y * (m.2.1 - m.1.1) - X * (l.2.1 - l.1.1) : Int) : Rat) := by
    unfold gx
    simp only [Rat.intCast_sub, Rat.intCast_mul, Rat.intCast_add]
    rw [← x1, ← y1]
    grind
  have qy : gy l m z * N = ((N * (m.1.2 - l.1.2) + Y * (m.2.2 - m.1.2) - X * (l.2.2 - l.1.2) : Int) : Rat) := by
    unfold gy
    simp only [Rat.intCast_sub, Rat.intCast_mul, Rat.intCast_add]
    rw [← x1, ← y1]
    grind
  have bgx : (N * (m.1.1 - l.1.1) + Y * (m.2.1 - m.1.1) - X * (l.2.1 - l.1.1)).natAbs < 2 ^ 161 := by
    have p := prod_lt (p := 138) (q := 21) (a := N) (b := m.1.1 - l.1.1) (by omega) (by omega)
    have q := prod_lt (p := 138) (q := 21) (a := Y) (b := m.2.1 - m.1.1) (by omega) (by omega)
    have r := prod_lt (p := 138) (q := 21) (a := X) (b := l.2.1 - l.1.1) (by omega) (by omega)
    omega
  have bgy : (N * (m.1.2 - l.1.2) + Y * (m.2.2 - m.1.2) - X * (l.2.2 - l.1.2)).natAbs < 2 ^ 161 := by
    have p := prod_lt (p := 138) (q := 21) (a := N) (b := m.1.2 - l.1.2) (by omega) (by omega)
    have q := prod_lt (p := 138) (q := 21) (a := Y) (b := m.2.2 - m.1.2) (by omega) (by omega)
    have r := prod_lt (p := 138) (q := 21) (a := X) (b := l.2.2 - l.1.2) (by omega) (by omega)
    omega
  generalize N * (m.1.1 - l.1.1) + Y * (m.2.1 - m.1.1) - X * (l.2.1 - l.1.1) = GX at *
  generalize N * (m.1.2 - l.1.2) + Y * (m.2.2 - m.1.2) - X * (l.2.2 - l.1.2) = GY at *
  have eq : Q l m z = ((GX * GX + GY * GY : Int) : Rat) / ((N * N : Int) : Rat) := by
    simp only [Rat.intCast_mul, Rat.intCast_add]
    rw [← qx, ← qy]
    unfold Q
    grind
  have s0 := rd_small ha.1 (Int.mul_pos n0 n0) (e1.trans eq)
  have pg := prod_lt bgx bgx
  have ph := prod_lt bgy bgy
  have pn := prod_lt (p := 138) (q := 138) (a := N) (b := N) (by omega) (by omega)
  have pn2 : 0 < N * N := Int.mul_pos n0 n0
  have sm : ∀ {f : Fr} {k : Nat}, Rd f → f.1.natAbs < 2 ^ k → f.2.natAbs < 2 ^ k → S k f := fun hf a b => ⟨hf.1, lt_of a, lt_of b⟩
  have g1 := ha.1.1
  have g2 := ha.2.1.1
  have g3 := ha.2.2.1
  refine ⟨sm ha.1 (by omega) (by omega), sm ha.2.1 (by omega) (by omega), sm ha.2.2 (by omega) (by omega)⟩
end
end Frac

/-! allowed couples as places of the field; sides and edges by fractions -/
namespace Frac
variable [Dl.LamT]
open PySem L2 Dl
theorem val_nonneg {f : Fr} (hf : 0 < f.2) : 0 ≤ f.1 ↔ 0 ≤ val f := by
  have h := lt_val (f := f) (g := (0, 1)) hf one_pos
  have e : val (0, 1) = 0 := by rw [val_int, Rat.intCast_zero]
  rw [e] at h
  unfold ltF at h
  dsimp only at h
  have h2 := decide_eq_decide.mp h
  constructor
  · intro g
    refine Rat.not_lt.mp fun hn => ?_
    have := h2.mpr hn
    omega
  · intro g
    refine Int.not_lt.mp fun hn => ?_
    have := h2.mp (by omega)
    grind
theorem val_le_one {f : Fr} (hf : 0 < f.2) : ltF (1, 1) f = false ↔ val f ≤ 1 := by
  rw [lt_val one_pos hf, decide_eq_false_iff_not, val_int, Rat.intCast_one]
  exact Rat.not_lt
theorem ltF_false {f g : Fr} (hf : 0 < f.2) (hg : 0 < g.2) : ltF f g = false ↔ val g ≤ val f := by
  rw [lt_val hf hg, decide_eq_false_iff_not]
  exact Rat.not_lt
theorem val_neg {n d : Int} : val (-n, d) = -val (n, d) := by
  unfold val
  dsimp only
  rw [Rat.intCast_neg]
  grind
/-- the parts stand in the field -/
theorem in_H {s t a rho : Fr} (hs : 0 < s.2) (ht : 0 < t.2) (hr : 0 < rho.2) (ha : 0 < a.2) (hab : (0 ≤ val s - val t ∧ val a = val s - val t) ∨ (val s - val t ≤ 0 ∧ val a = val t - val s)) :
    (0 ≤ s.1 ∧ 0 ≤ t.1 ∧ ltF (1, 1) s = false ∧ ltF (1, 1) t = false ∧ ltF rho a = false) ↔ H (val rho) (val s, val t) := by
  rw [val_nonneg hs, val_nonneg ht, val_le_one hs, val_le_one ht, ltF_false hr ha]
  unfold H
  dsimp only
  constructor
  · rintro ⟨h1, h2, h3, h4, h5⟩
    refine ⟨⟨h1, h3⟩, ⟨h2, h4⟩, ?_, ?_⟩ <;> (rcases hab with ⟨g1, g2⟩ | ⟨g1, g2⟩ <;> grind)
  · rintro ⟨⟨h1, h3⟩, ⟨h2, h4⟩, h5, h6⟩
    refine ⟨h1, h2, h3, h4, ?_⟩
    rcases hab with ⟨g1, g2⟩ | ⟨g1, g2⟩ <;> grind
theorem abs_les {s t : Fr} {g1 g2 : Int} (hs : 0 < s.2) (ht : 0 < t.2) (e : lesF s t = (g1, g2)) : 0 < g2 ∧ ((0 ≤ val s - val t ∧ 0 ≤ g1 ∧ val (g1, g2) = val s - val t) ∨ (val s - val t ≤ 0 ∧ g1 < 0 ∧ val (-g1, g2) = val t - val s)) := by
  have hv := val_les hs ht
  have hp := pos_les hs ht
  rw [e] at hv hp
  refine ⟨hp, ?_⟩
  by_cases h : 0 ≤ g1
  · have := (val_nonneg (f := (g1, g2)) hp).mp h
    exact .inl ⟨by rw [← hv]; exact this, h, hv⟩
  · have h2 : ¬ 0 ≤ val (g1, g2) := fun z => h ((val_nonneg (f := (g1, g2)) hp).mpr z)
    rw [val_neg]
    refine .inr ⟨?_, by omega, ?_⟩ <;> grind
/-! ### crossings -/
theorem meet_of {l m : Leg} {s t : Fr} (hw : (l.2.1 - l.1.1) * (m.2.2 - m.1.2) - (l.2.2 - l.1.2) * (m.2.1 - m.1.1) ≠ 0)
    (e1 : val s = (((m.1.1 - l.1.1) * (m.2.2 - m.1.2) - (m.1.2 - l.1.2) * (m.2.1 - m.1.1) : Int) : Rat) / (((l.2.1 - l.1.1) * (m.2.2 - m.1.2) - (l.2.2 - l.1.2) * (m.2.1 - m.1.1) : Int) : Rat))
    (e2 : val t = (((m.1.1 - l.1.1) * (l.2.2 - l.1.2) - (m.1.2 - l.1.2) * (l.2.1 - l.1.1) : Int) : Rat) / (((l.2.1 - l.1.1) * (m.2.2 - m.1.2) - (l.2.2 - l.1.2) * (m.2.1 - m.1.1) : Int) : Rat)) : Meet l m (val s, val t) := by
  have hw' := cast_ne hw
  have et : turnR l m = (((l.2.1 - l.1.1) * (m.2.2 - m.1.2) - (l.2.2 - l.1.2) * (m.2.1 - m.1.1) : Int) : Rat) := by
    unfold turnR
    simp only [Rat.intCast_sub, Rat.intCast_mul]
  refine ⟨by rw [et]; exact hw', ?_, ?_⟩
  · unfold gx
    dsimp only
    rw [e1, e2]
    simp only [Rat.intCast_sub, Rat.intCast_mul] at hw' ⊢
    generalize (l.1.1 : Rat) = a1 at *
    generalize (l.1.2 : Rat) = a2 at *
    generalize (l.2.1 : Rat) = a3 at *
    generalize (l.2.2 : Rat) = a4 at *
    generalize (m.1.1 : Rat) = b1 at *
    generalize (m.1.2 : Rat) = b2 at *
    generalize (m.2.1 : Rat) = b3 at *
    generalize (m.2.2 : Rat) = b4 at *
    clear e1 e2 et
    generalize hT : (a3 - a1) * (b4 - b2) - (a4 - a2) * (b3 - b1) = t at *
    grind
  · unfold gy
    dsimp only
    rw [e1, e2]
    simp only [Rat.intCast_sub, Rat.intCast_mul] at hw' ⊢
    generalize (l.1.1 : Rat) = a1 at *
    generalize (l.1.2 : Rat) = a2 at *
    generalize (l.2.1 : Rat) = a3 at *
    generalize (l.2.2 : Rat) = a4 at *
    generalize (m.1.1 : Rat) = b1 at *
    generalize (m.1.2 : Rat) = b2 at *
    generalize (m.2.1 : Rat) = b3 at *
    generalize (m.2.2 : Rat) = b4 at *
    clear e1 e2 et
    generalize hT : (a3 - a1) * (b4 - b2) - (a4 - a2) * (b3 - b1) = t at *
    grind
theorem no_meet {l m : Leg} {z : Pt} (hw : (l.2.1 - l.1.1) * (m.2.2 - m.1.2) - (l.2.2 - l.1.2) * (m.2.1 - m.1.1) = 0) : ¬ Meet l m z := by
  rintro ⟨h, _⟩
  refine h ?_
  have et : turnR l m = (((l.2.1 - l.1.1) * (m.2.2 - m.1.2) - (l.2.2 - l.1.2) * (m.2.1 - m.1.1) : Int) : Rat) := by
    unfold turnR
    simp only [Rat.intCast_sub, Rat.intCast_mul]
  rw [et, hw, Rat.intCast_zero]
/-! ### the run along a side -/
/-- the change of the gap from c to d -/
def runF (l m : Leg) (c d : Cor) : Fr × Fr := (lesF (gapF l m d.1 d.2).1 (gapF l m c.1 c.2).1, lesF (gapF l m d.1 d.2).2 (gapF l m c.1 c.2).2)
section
variable {l m : Leg} {c d : Cor}
theorem rd_run (hc : RdC c) (hd : RdC d) : Rd (runF l m c d).1 ∧ Rd (runF l m c d).2 := ⟨rd_les (pos_gap l m hd.1.1 hd.2.1).1 (pos_gap l m hc.1.1 hc.2.1).1, rd_les (pos_gap l m hd.1.1 hd.2.1).2 (pos_gap l m hc.1.1 hc.2.1).2⟩
theorem val_run (hc : RdC c) (hd : RdC d) : val (runF l m c d).1 = gx l m (vC d) - gx l m (vC c) ∧ val (runF l m c d).2 = gy l m (vC d) - gy l m (vC c) := by
  unfold runF vC
  dsimp only
  rw [val_les (pos_gap l m hd.1.1 hd.2.1).1 (pos_gap l m hc.1.1 hc.2.1).1, val_les (pos_gap l m hd.1.1 hd.2.1).2 (pos_gap l m hc.1.1 hc.2.1).2, (val_gap l m hd.1.1 hd.2.1).1, (val_gap l m hd.1.1 hd.2.1).2, (val_gap l m hc.1.1 hc.2.1).1, (val_gap l m hc.1.1 hc.2.1).2]
  exact ⟨rfl, rfl⟩
theorem val_C (hc : RdC c) (hd : RdC d) : val (dotF (runF l m c d) (runF l m c d)) = Cq l m (vC c) (vC d) := by
  have h := rd_run (l := l) (m := m) hc hd
  rw [val_dot ⟨h.1.1, h.2.1⟩ ⟨h.1.1, h.2.1⟩, (val_run hc hd).1, (val_run hc hd).2]
  rfl
theorem val_B (hc : RdC c) (hd : RdC d) : val (dotF (gapF l m c.1 c.2) (runF l m c d)) = Bq l m (vC c) (vC d) := by
  have h := rd_run (l := l) (m := m) hc hd
  rw [val_dot (pos_gap l m hc.1.1 hc.2.1) ⟨h.1.1, h.2.1⟩, (val_run hc hd).1, (val_run hc hd).2, (val_gap l m hc.1.1 hc.2.1).1, (val_gap l m hc.1.1 hc.2.1).2]
  rfl
/-- the share of the run where the gap is least -/
def shareF (l m : Leg) (c d : Cor) : Fr := divF (mulF (-1, 1) (dotF (gapF l m c.1 c.2) (runF l m c d))) (dotF (runF l m c d) (runF l m c d))
theorem steep_iff (hc : RdC c) (hd : RdC d) : (dotF (runF l m c d) (runF l m c d)).1 = 0 ↔ Cq l m (vC c) (vC d) = 0 := by
  have h := rd_run (l := l) (m := m) hc hd
  rw [← val_C hc hd]
  exact (val_zero_iff (rd_dot ⟨h.1.1, h.2.1⟩ ⟨h.1.1, h.2.1⟩).1).symm
theorem val_share (hc : RdC c) (hd : RdC d) (hz : (dotF (runF l m c d) (runF l m c d)).1 ≠ 0) : val (shareF l m c d) = -Bq l m (vC c) (vC d) / Cq l m (vC c) (vC d) := by
  have h := rd_run (l := l) (m := m) hc hd
  have p1 := (rd_dot (u := gapF l m c.1 c.2) (v := runF l m c d) (pos_gap l m hc.1.1 hc.2.1) ⟨h.1.1, h.2.1⟩).1
  have p2 := (rd_dot (u := runF l m c d) (v := runF l m c d) ⟨h.1.1, h.2.1⟩ ⟨h.1.1, h.2.1⟩).1
  unfold shareF
  rw [val_div (pos_mul one_pos p1) p2 hz, val_mul one_pos p1, val_B hc hd, val_C hc hd, val_int]
  have : ((-1 : Int) : Rat) = -1 := by rw [Rat.intCast_neg, Rat.intCast_one]
  rw [this]
  grind
theorem pos_share (hc : RdC c) (hd : RdC d) (hz : (dotF (runF l m c d) (runF l m c d)).1 ≠ 0) : 0 < (shareF l m c d).2 := by
  have h := rd_run (l := l) (m := m) hc hd
  have p1 := (rd_dot (u := gapF l m c.1 c.2) (v := runF l m c d) (pos_gap l m hc.1.1 hc.2.1) ⟨h.1.1, h.2.1⟩).1
  exact (rd_div (pos_mul one_pos p1) hz).1
/-- a place told by a share of the run -/
def atF (c d : Cor) (p : Fr) : Cor := (addF c.1 (mulF p (lesF d.1 c.1)), addF c.2 (mulF p (lesF d.2 c.2)))
theorem rd_at (hc : RdC c) (hd : RdC d) {p : Fr} (hp : 0 < p.2) : RdC (atF c d p) := ⟨rd_add hc.1.1 (pos_mul hp (pos_les hd.1.1 hc.1.1)), rd_add hc.2.1 (pos_mul hp (pos_les hd.2.1 hc.2.1))⟩
theorem val_at (hc : RdC c) (hd : RdC d) {p : Fr} (hp : 0 < p.2) : vC (atF c d p) = mid (vC c) (vC d) (val p) := by
  unfold vC atF mid
  dsimp only
  rw [val_add hc.1.1 (pos_mul hp (pos_les hd.1.1 hc.1.1)), val_add hc.2.1 (pos_mul hp (pos_les hd.2.1 hc.2.1)), val_mul hp (pos_les hd.1.1 hc.1.1), val_mul hp (pos_les hd.2.1 hc.2.1), val_les hd.1.1 hc.1.1, val_les hd.2.1 hc.2.1]
/-- a share cut to [0, 1] tells the nearest place of the side -/
theorem best_cut (hC : Cq l m (vC c) (vC d) ≠ 0) {v : Rat} (hv : v = -Bq l m (vC c) (vC d) / Cq l m (vC c) (vC d)) {x : Rat} (hx : (v ≤ 0 ∧ x = 0) ∨ (1 ≤ v ∧ x = 1) ∨ (0 ≤ v ∧ v ≤ 1 ∧ x = v)) : Best l m (vC c) (vC d) (mid (vC c) (vC d) x) := by
  have C0 := Cq_nonneg l m (vC c) (vC d)
  have hp : 0 < Cq l m (vC c) (vC d) := by grind
  have e : Cq l m (vC c) (vC d) * v + Bq l m (vC c) (vC d) = 0 := by rw [hv]; grind
  rcases hx with ⟨h, rfl⟩ | ⟨h, rfl⟩ | ⟨h, h2, rfl⟩
  · refine ⟨0, by grind, by grind, rfl, hp, .inr (.inl ⟨rfl, ?_⟩)⟩
    have := Rat.mul_nonneg (Rat.le_of_lt hp) (show 0 ≤ -v by grind)
    grind
  · refine ⟨1, by grind, by grind, rfl, hp, .inr (.inr ⟨rfl, ?_⟩)⟩
    have := Rat.mul_nonneg (Rat.le_of_lt hp) (show 0 ≤ v - 1 by grind)
    grind
  · exact ⟨x, h, h2, rfl, hp, .inl e⟩
end
end Frac

namespace Frac
variable [Dl.LamT]
open PySem L2 Dl
/-! the best place of a side is told with short numbers -/
section
variable {l m : Leg} {z p q : Pt}
theorem best_form {D cx cy dx dy : Int} (hl : Bl l) (hm : Bl m) (hd : 0 < D) (bD : D.natAbs < 2 ^ 124) (bcx : cx.natAbs < 2 ^ 124) (bcy : cy.natAbs < 2 ^ 124) (bdx : dx.natAbs < 2 ^ 124) (bdy : dy.natAbs < 2 ^ 124)
    (a1 : p.1 * D = cx) (a2 : p.2 * D = cy) (b1 : q.1 * D = dx) (b2 : q.2 * D = dy) (h : Best l m p q z) :
    ∃ N X Y : Int, 0 < N ∧ N.natAbs < 2 ^ 430 ∧ X.natAbs < 2 ^ 430 ∧ Y.natAbs < 2 ^ 430 ∧ z.1 * N = X ∧ z.2 * N = Y := by
  obtain ⟨⟨⟨l1, l2⟩, l3, l4⟩, ⟨l5, l6⟩, l7, l8⟩ := hl
  obtain ⟨⟨⟨m1, m2⟩, m3, m4⟩, ⟨m5, m6⟩, m7, m8⟩ := hm
  have up : ∀ {i : Int}, i.natAbs < 2 ^ 124 → i.natAbs < 2 ^ 430 := fun h => Nat.lt_trans h (Nat.pow_lt_pow_right (by decide) (by decide))
  obtain ⟨x, x0, x1, rfl, hC, hx⟩ := h
  rcases hx with hx | ⟨rfl, _⟩ | ⟨rfl, _⟩
  · obtain ⟨p1, p2⟩ := p
    obtain ⟨q1, q2⟩ := q
    dsimp only at *
    have dp := cast_pos hd
    have eX : (gx l m (q1, q2) - gx l m (p1, p2)) * D = (((dy - cy) * (m.2.1 - m.1.1) - (dx - cx) * (l.2.1 - l.1.1) : Int) : Rat) := by
      unfold gx
      simp only [Rat.intCast_sub, Rat.intCast_mul]
      rw [← a1, ← a2, ← b1, ← b2]
      grind
    have eY : (gy l m (q1, q2) - gy l m (p1, p2)) * D = (((dy - cy) * (m.2.2 - m.1.2) - (dx - cx) * (l.2.2 - l.1.2) : Int) : Rat) := by
      unfold gy
      simp only [Rat.intCast_sub, Rat.intCast_mul]
      rw [← a1, ← a2, ← b1, ← b2]
      grind
    have fX : gx l m (p1, p2) * D = ((D * (m.1.1 - l.1.1) + cy * (m.2.1 - m.1.1) - cx * (l.2.1 - l.1.1) : Int) : Rat) := by
      unfold gx
      simp only [Rat.intCast_sub, Rat.intCast_mul, Rat.intCast_add]
      rw [← a1, ← a2]
      grind
    have fY : gy l m (p1, p2) * D = ((D * (m.1.2 - l.1.2) + cy * (m.2.2 - m.1.2) - cx * (l.2.2 - l.1.2) : Int) : Rat) := by
      unfold gy
      simp only [Rat.intCast_sub, Rat.intCast_mul, Rat.intCast_add]
      rw [← a1, ← a2]
      grind
    have bX : ((dy - cy) * (m.2.1 - m.1.1) - (dx - cx) * (l.2.1 - l.1.1)).natAbs < 2 ^ 148 := by
      have p := prod_lt (p := 125) (q := 22) (a := dy - cy) (b := m.2.1 - m.1.1) (by omega) (by omega)
      have q := prod_lt (p := 125) (q := 22) (a := dx - cx) (b := l.2.1 - l.1.1) (by omega) (by omega)
      omega
    have bY : ((dy - cy) * (m.2.2 - m.1.2) - (dx - cx) * (l.2.2 - l.1.2)).natAbs < 2 ^ 148 := by
      have p := prod_lt (p := 125) (q := 22) (a := dy - cy) (b := m.2.2 - m.1.2) (by omega) (by omega)
      have q := prod_lt (p := 125) (q := 22) (a := dx - cx) (b := l.2.2 - l.1.2) (by omega) (by omega)
      omega
    generalize (dy - cy) * (m.2.1 - m.1.1) - (dx - cx) * (l.2.1 - l.1.1) = DX at *
    generalize (dy - cy) * (m.2.2 - m.1.2) - (dx - cx) * (l.2.2 - l.1.2) = DY at *
    generalize D * (m.1.1 - l.1.1) + cy * (m.2.1 - m.1.1) - cx * (l.2.1 - l.1.1) = GX at *
    generalize D * (m.1.2 - l.1.2) + cy * (m.2.2 - m.1.2) - cx * (l.2.2 - l.1.2) = GY at *
    have eC : Cq l m (p1, p2) (q1, q2) * D * D = ((DX * DX + DY * DY : Int) : Rat) := by
      unfold Cq
      simp only [Rat.intCast_add, Rat.intCast_mul]
      rw [← eX, ← eY]
      grind
    have eB : Bq l m (p1, p2) (q1, q2) * D * D = ((GX * DX + GY * DY : Int) : Rat) := by
      unfold Bq
      simp only [Rat.intCast_add, Rat.intCast_mul]
      rw [← eX, ← eY, ← fX, ← fY]
      grind
    have eN : x * ((DX * DX + DY * DY : Int) : Rat) = ((-(GX * DX + GY * DY) : Int) : Rat) := by
      rw [Rat.intCast_neg, ← eC, ← eB]
      grind
    have N0 : 0 < DX * DX + DY * DY := by
      have : (0 : Rat) < ((DX * DX + DY * DY : Int) : Rat) := by
        rw [← eC]
        exact Rat.mul_pos (Rat.mul_pos hC dp) dp
      have z : ((0 : Int) : Rat) < ((DX * DX + DY * DY : Int) : Rat) := by rw [Rat.intCast_zero]; exact this
      exact Rat.intCast_lt_intCast.mp z
    have N1 : (DX * DX + DY * DY).natAbs < 2 ^ 297 := by
      have p := prod_lt bX bX
      have q := prod_lt bY bY
      omega
    have bM := unit_of N0 eN x0 x1
    generalize DX * DX + DY * DY = N at *
    generalize -(GX * DX + GY * DY) = M at *
    have bM2 : M.natAbs < 2 ^ 297 := by omega
    have k1 := prod_lt bcx N1
    have k2 := prod_lt bcy N1
    have k3 := prod_lt (p := 297) (q := 125) (a := M) (b := dx - cx) bM2 (by omega)
    have k4 := prod_lt (p := 297) (q := 125) (a := M) (b := dy - cy) bM2 (by omega)
    have k5 := prod_lt bD N1
    refine ⟨D * N, cx * N + M * (dx - cx), cy * N + M * (dy - cy), Int.mul_pos hd N0, by omega, by omega, by omega, ?_, ?_⟩
    · unfold mid
      simp only [Rat.intCast_add, Rat.intCast_mul, Rat.intCast_sub]
      rw [← a1, ← b1, ← eN]
      grind
    · unfold mid
      simp only [Rat.intCast_add, Rat.intCast_mul, Rat.intCast_sub]
      rw [← a2, ← b2, ← eN]
      grind
  · have e0 : mid p q 0 = p := by unfold mid; ext <;> grind
    rw [e0]
    exact ⟨D, cx, cy, hd, up bD, up bcx, up bcy, a1, a2⟩
  · have e0 : mid p q 1 = q := by unfold mid; ext <;> grind
    rw [e0]
    exact ⟨D, dx, dy, hd, up bD, up bdx, up bdy, b1, b2⟩
theorem over_four {f g h i : Fr} (hf : S 31 f) (hg : S 31 g) (hh : S 31 h) (hi : S 31 i) : val f * ((f.2 * (g.2 * (h.2 * i.2)) : Int) : Rat) = ((f.1 * (g.2 * (h.2 * i.2)) : Int) : Rat) ∧ (f.1 * (g.2 * (h.2 * i.2))).natAbs < 2 ^ 124 ∧ (f.2 * (g.2 * (h.2 * i.2))).natAbs < 2 ^ 124 := by
  have k := prod_lt hh.d hi.d
  have k2 := prod_lt hg.d k
  refine ⟨?_, prod_lt hf.n k2, prod_lt hf.d k2⟩
  have := cast_pos hf.pos
  unfold val
  simp only [Rat.intCast_mul]
  grind
theorem best_small (hl : Bl l) (hm : Bl m) {c d y : Cor} (sc : S 31 c.1 ∧ S 31 c.2) (rc : RdC c) (sd : S 31 d.1 ∧ S 31 d.2) (rd : RdC d) (hy : RdC y) (h : vC y = vC c ∨ vC y = vC d ∨ Best l m (vC c) (vC d) (vC y)) : S 430 y.1 ∧ S 430 y.2 := by
  have inj : ∀ {e : Cor}, RdC e → vC y = vC e → y = e := fun {e} he q => by
    obtain ⟨y1, y2⟩ := y
    obtain ⟨e1, e2⟩ := e
    unfold vC at q
    injection q with q1 q2
    have r1 : y1 = e1 := val_inj hy.1 he.1 q1
    have r2 : y2 = e2 := val_inj hy.2 he.2 q2
    rw [r1, r2]
  rcases h with h | h | h
  · rw [inj rc h]
    exact ⟨sc.1.mono (by decide), sc.2.mono (by decide)⟩
  · rw [inj rd h]
    exact ⟨sd.1.mono (by decide), sd.2.mono (by decide)⟩
  · obtain ⟨v1, n1, d1⟩ := over_four sc.1 sc.2 sd.1 sd.2
    obtain ⟨v2, n2, d2⟩ := over_four sc.2 sc.1 sd.1 sd.2
    obtain ⟨v3, n3, d3⟩ := over_four sd.1 sc.1 sc.2 sd.2
    obtain ⟨v4, n4, d4⟩ := over_four sd.2 sc.1 sc.2 sd.1
    have e2 : c.2.2 * (c.1.2 * (d.1.2 * d.2.2)) = c.1.2 * (c.2.2 * (d.1.2 * d.2.2)) := by grind
    have e3 : d.1.2 * (c.1.2 * (c.2.2 * d.2.2)) = c.1.2 * (c.2.2 * (d.1.2 * d.2.2)) := by grind
    have e4 : d.2.2 * (c.1.2 * (c.2.2 * d.1.2)) = c.1.2 * (c.2.2 * (d.1.2 * d.2.2)) := by grind
    rw [e2] at v2
    rw [e3] at v3
    rw [e4] at v4
    have Dp : 0 < c.1.2 * (c.2.2 * (d.1.2 * d.2.2)) := Int.mul_pos sc.1.pos (Int.mul_pos sc.2.pos (Int.mul_pos sd.1.pos sd.2.pos))
    obtain ⟨N, X, Y, N0, N1, X1, Y1, w1, w2⟩ := best_form hl hm Dp d1 n1 n2 n3 n4 v1 v2 v3 v4 h
    have np := cast_pos N0
    have s1 := rd_small hy.1 N0 (n := X) (by show (vC y).1 = _; grind)
    have s2 := rd_small hy.2 N0 (n := Y) (by show (vC y).2 = _; grind)
    have g1 := hy.1.1
    have g2 := hy.2.1
    exact ⟨⟨g1, lt_of (by omega), lt_of (by omega)⟩, ⟨g2, lt_of (by omega), lt_of (by omega)⟩⟩
end
end Frac

namespace My
variable [Dl.LamT]
open PySem PySem.Spec L2 Dl
open Frac
abbrev Bg (f : Fr) : Prop := S 4000 f
theorem bg {a : Nat} {f : Fr} (h : S a f) (ha : a ≤ 4000) : Bg f := h.mono ha
def sp_low : ASp := fun rs k => ∃ n d : Int, rs = [.dat (.int n), .dat (.int d)] ∧ d ≠ 0 ∧ Lt 8500 n ∧ Lt 8500 d ∧ k (.dat (fD (lowF n d)))
def sp_bin (F : Fr → Fr → Fr) : ASp := fun rs k => ∃ f g : Fr, rs = [.dat (fD f), .dat (fD g)] ∧ Bg f ∧ Bg g ∧ k (.dat (fD (F f g)))
abbrev sp_add : ASp := sp_bin addF
abbrev sp_les : ASp := sp_bin lesF
abbrev sp_mul : ASp := sp_bin mulF
def sp_div : ASp := fun rs k => ∃ f g : Fr, rs = [.dat (fD f), .dat (fD g)] ∧ Bg f ∧ Bg g ∧ g.1 ≠ 0 ∧ k (.dat (fD (divF f g)))
def cmpF (f g : Fr) : Int := (if decide (f.1 * g.2 > g.1 * f.2) then 1 else 0) - (if decide (f.1 * g.2 < g.1 * f.2) then 1 else 0)
theorem cmp_neg (f g : Fr) : cmpF f g < 0 ↔ ltF f g = true := by
  unfold cmpF ltF
  simp only [decide_eq_true_eq]
  split <;> split <;> omega
theorem cmp_le (f g : Fr) : cmpF f g ≤ 0 ↔ ltF g f = false := by
  unfold cmpF ltF
  simp only [decide_eq_true_eq, decide_eq_false_iff_not]
  split <;> split <;> omega
theorem cms {f g : Fr} (hf : Bg f) (hg : Bg g) : (CMulW f.1 g.2 ∧ CMulW g.1 f.2) ∧ (CMulW f.1 g.1 ∧ CMulW f.2 g.2) ∧ CMulW f.2 g.1 :=
  ⟨⟨hf.n.cm hg.d (by decide) (by decide) (by decide), hg.n.cm hf.d (by decide) (by decide) (by decide)⟩, ⟨hf.n.cm hg.n (by decide) (by decide) (by decide), hf.d.cm hg.d (by decide) (by decide) (by decide)⟩, hf.d.cm hg.n (by decide) (by decide) (by decide)⟩
theorem b_add {f g : Fr} (hf : Bg f) (hg : Bg g) : Lt 8500 (f.1 * g.2 + g.1 * f.2) := (hf.n.mul hg.d).add (hg.n.mul hf.d) (by decide) (by decide)
theorem b_les {f g : Fr} (hf : Bg f) (hg : Bg g) : Lt 8500 (f.1 * g.2 - g.1 * f.2) := (hf.n.mul hg.d).sub (hg.n.mul hf.d) (by decide) (by decide)
theorem b_nn {f g : Fr} (hf : Bg f) (hg : Bg g) : Lt 8500 (f.1 * g.1) := (hf.n.mul hg.n).mono (by decide)
theorem b_dd {f g : Fr} (hf : Bg f) (hg : Bg g) : Lt 8500 (f.2 * g.2) := (hf.d.mul hg.d).mono (by decide)
theorem b_nd {f g : Fr} (hf : Bg f) (hg : Bg g) : Lt 8500 (f.1 * g.2) := (hf.n.mul hg.d).mono (by decide)
theorem b_dn {f g : Fr} (hf : Bg f) (hg : Bg g) : Lt 8500 (f.2 * g.1) := (hf.d.mul hg.n).mono (by decide)
def cD (c : Col) : PyData := .tuple [.int c.1, .int c.2]
def lD (l : Leg) : PyData := .tuple [cD l.1, cD l.2]
def pD (p : Fr × Fr) : PyData := .tuple [fD p.1, fD p.2]
theorem z_dot {u v : Fr × Fr} {a b m : Nat} (h1 : S a u.1) (h2 : S a u.2) (h3 : S b v.1) (h4 : S b v.2) (hm : 2 * a + 2 * b < m) : S m (dotF u v) := (h1.mul h3 (Nat.le_refl _)).add (h2.mul h4 (Nat.le_refl _)) (by omega)
def sp_cmp : ASp := fun rs k => ∃ f g : Fr, rs = [.dat (fD f), .dat (fD g)] ∧ S 8400 f ∧ S 8400 g ∧ k (.dat (.int (cmpF f g)))
theorem z_place {l : Leg} {s : Fr} {a : Nat} (hl : Bl l) (hs : S a s) : S (a + 42) (placeF l s).1 ∧ S (a + 42) (placeF l s).2 := by
  obtain ⟨⟨h1, h2⟩, h3, h4⟩ := hl
  exact ⟨(s_int (by decide) (lt_c h1.1 h1.2)).add (hs.mul (s_int (by decide) (lt_cc h3 h1)) (Nat.le_refl _)) (by omega), (s_int (by decide) (lt_c h2.1 h2.2)).add (hs.mul (s_int (by decide) (lt_cc h4 h2)) (Nat.le_refl _)) (by omega)⟩
theorem z_gap {l m : Leg} {s t : Fr} {a : Nat} (hl : Bl l) (hm : Bl m) (hs : S a s) (ht : S a t) : S (2 * a + 85) (gapF l m s t).1 ∧ S (2 * a + 85) (gapF l m s t).2 :=
  ⟨(z_place hm ht).1.les (z_place hl hs).1 (by omega), (z_place hm ht).2.les (z_place hl hs).2 (by omega)⟩
theorem z_sq {l m : Leg} {s t : Fr} {a b : Nat} (hl : Bl l) (hm : Bl m) (hs : S a s) (ht : S a t) (hb : 8 * a + 340 < b) : S b (sqF l m s t) := by
  obtain ⟨h1, h2⟩ := z_gap hl hm hs ht
  exact z_dot h1 h2 h1 h2 (by omega)
def sp_parting : ASp := fun rs k => ∃ (l m : Leg) (s t : Fr), rs = [.dat (lD l), .dat (lD m), .dat (fD s), .dat (fD t)] ∧ Bl l ∧ Bl m ∧ S 430 s ∧ S 430 t ∧ k (.dat (pD (gapF l m s t)))
def sp_dot : ASp := fun rs k => ∃ u v : Fr × Fr, rs = [.dat (pD u), .dat (pD v)] ∧ (S 1999 u.1 ∧ S 1999 u.2) ∧ (S 1999 v.1 ∧ S 1999 v.2) ∧ k (.dat (fD (dotF u v)))
def sp_sq : ASp := fun rs k => ∃ (l m : Leg) (s t : Fr), rs = [.dat (lD l), .dat (lD m), .dat (fD s), .dat (fD t)] ∧ Bl l ∧ Bl m ∧ S 430 s ∧ S 430 t ∧ k (.dat (fD (sqF l m s t)))
def sp_lgap : ASp := fun rs k => ∃ (l m : Leg) (s t : Fr), rs = [.dat (lD l), .dat (lD m), .dat (fD s), .dat (fD t)] ∧ Bl l ∧ Bl m ∧ S 430 s ∧ S 430 t ∧ k (.fresh [fD (gapF l m s t).1, fD (gapF l m s t).2])
def sp_ldot : ASp := fun rs k => ∃ u v : Fr × Fr, rs = [.bor [fD u.1, fD u.2], .bor [fD v.1, fD v.2]] ∧ (S 1999 u.1 ∧ S 1999 u.2) ∧ (S 1999 v.1 ∧ S 1999 v.2) ∧ k (.dat (fD (dotF u v)))
/-- legs as they are drawn -/
def Bt (c : Col) : Prop := (-900 ≤ c.1 ∧ c.1 ≤ 900) ∧ (-900 ≤ c.2 ∧ c.2 ≤ 900)
def Bs (l : Leg) : Prop := Bt l.1 ∧ Bt l.2
theorem Bs.bl {l : Leg} (h : Bs l) : Bl l := by
  obtain ⟨⟨⟨h1, h2⟩, h3, h4⟩, ⟨h5, h6⟩, h7, h8⟩ := h
  exact ⟨⟨⟨by omega, by omega⟩, by omega, by omega⟩, ⟨by omega, by omega⟩, by omega, by omega⟩
def sp_couple : ASp := fun rs k => ∃ s : Int, rs = [.bag, .dat (.int s)] ∧ (1 ≤ s ∧ s ≤ 20) ∧ ∀ l m : Leg, Bs l → Bs m → k (.dat (.tuple [lD l, lD m]))
def Row (r : Rw) : Prop := S 8400 r.1 ∧ S 430 r.2.1 ∧ S 430 r.2.2
def sp_place : ASp := fun rs k => ∃ (l : Leg) (s : Fr), rs = [.dat (lD l), .dat (fD s)] ∧ Bl l ∧ S 2200 s ∧ k (.dat (pD (placeF l s)))
def ringF (rho : Fr) : List Cor := [((0, 1), (0, 1)), ((0, 1), rho), (lesF (1, 1) rho, (1, 1)), ((1, 1), (1, 1)), ((1, 1), lesF (1, 1) rho), (rho, (0, 1))]
def sp_ring : ASp := fun rs k => ∃ rho : Fr, rs = [.dat (fD rho)] ∧ S 31 rho ∧ k (.fresh ((ringF rho).map pD))
def Sc (c : Cor) : Prop := S 31 c.1 ∧ S 31 c.2
theorem z_one : S 1 ((1, 1) : Fr) := s_int (by decide) (lt_of (by decide))
theorem z_zero : S 1 ((0, 1) : Fr) := s_int (by decide) (lt_of (by decide))
theorem cmp_zero {f g : Fr} (hf : Rd f) (hg : Rd g) : cmpF f g = 0 ↔ f = g := by
  constructor
  · intro h
    have h1 : ltF g f = false := (cmp_le f g).mp (by omega)
    have h2 : ¬ ltF f g = true := fun z => by
      have := (cmp_neg f g).mpr z
      omega
    exact ltF_tot hf hg (Bool.eq_false_iff.mpr h2) h1
  · rintro rfl
    unfold cmpF
    simp only [decide_eq_true_eq]
    split <;> omega
theorem eqv_fD (a b : Fr) : PyData.eqv (fD a) (fD b) = decide (a = b) := by
  obtain ⟨a1, a2⟩ := a
  obtain ⟨b1, b2⟩ := b
  unfold fD
  simp only [PyData.eqv, PyData.eqvAll, eqv_int]
  by_cases h1 : a1 = b1
  · by_cases h2 : a2 = b2
    · simp [h1, h2, eqv_int]
    · simp [h1, h2, eqv_int]
  · simp [h1, eqv_int]
theorem eqv_pD (a b : Cor) : PyData.eqv (pD a) (pD b) = decide (a = b) := by
  obtain ⟨a1, a2⟩ := a
  obtain ⟨b1, b2⟩ := b
  unfold pD
  simp only [PyData.eqv, PyData.eqvAll, eqv_fD]
  by_cases h1 : a1 = b1
  · by_cases h2 : a2 = b2
    · simp [h1, h2]
    · simp [h1, h2]
  · simp [h1]
theorem laid_fD (f : Fr) : PyData.canLay0 (fD f) = true ∧ PyData.depth (fD f) ≤ 1 := by
  unfold fD
  simp [PyData.canLay0, PyData.canLayAll0, PyData.depth, PyData.depthAll]
theorem laid_pD (c : Cor) : PyData.canLay0 (pD c) = true ∧ PyData.depth (pD c) ≤ 2 := by
  obtain ⟨h1, h2⟩ := laid_all (n := 1) [fD c.1, fD c.2] fun d hd => by
    simp only [List.mem_cons, List.not_mem_nil, or_false] at hd
    rcases hd with rfl | rfl <;> exact laid_fD _
  unfold pD
  simp only [PyData.canLay0, PyData.depth, h1, true_and]
  omega
theorem sh_pD (c : Cor) : SeqAt.shaped (pD c) = true := by
  obtain ⟨h1, h2⟩ := laid_pD c
  unfold SeqAt.shaped
  rw [h1, Bool.true_and]
  exact decide_eq_true (by omega)
theorem sh_fD (c : Fr) : SeqAt.shaped (fD c) = true := by
  obtain ⟨h1, h2⟩ := laid_fD c
  unfold SeqAt.shaped
  rw [h1, Bool.true_and]
  exact decide_eq_true (by omega)
theorem sh_pDs (cs : List Cor) : SeqAt.shaped (.list (cs.map pD)) = true := sh_lst 2 (by decide) fun d hd => by
  obtain ⟨c, _, rfl⟩ := List.mem_map.mp hd
  exact laid_pD c
theorem any_pD (cs : List Cor) (c : Cor) : ((cs.map pD).any fun z => PyData.eqv z (pD c)) = decide (c ∈ cs) := by
  rw [List.any_map, Bool.eq_iff_iff, decide_eq_true_eq, List.any_eq_true]
  constructor
  · rintro ⟨x, hx, e⟩
    have e : PyData.eqv (pD x) (pD c) = true := e
    rw [eqv_pD] at e
    rw [← of_decide_eq_true e]
    exact hx
  · intro hm
    refine ⟨c, hm, ?_⟩
    show PyData.eqv (pD c) (pD c) = true
    rw [eqv_pD]
    exact decide_eq_true rfl
theorem ins_len (fs : List Cor) (c : Cor) : (insC fs c).length ≤ fs.length + 1 := by
  unfold insC
  split
  · omega
  · simp only [List.length_append, List.length_take, List.length_drop, List.length_cons, List.length_nil]
    omega
theorem fold_len : ∀ (cs fs : List Cor), (cs.foldl insC fs).length ≤ fs.length + cs.length
  | [], fs => by simp
  | c :: cs, fs => by
    have := fold_len cs (insC fs c)
    have := ins_len fs c
    rw [List.foldl_cons, List.length_cons]
    omega
theorem fold_mem : ∀ (cs fs : List Cor) (x : Cor), x ∈ cs.foldl insC fs → x ∈ fs ∨ x ∈ cs
  | [], fs, x, h => .inl h
  | c :: cs, fs, x, h => by
    rcases fold_mem cs (insC fs c) x h with h | h
    · unfold insC at h
      split at h
      · exact .inl h
      · rcases List.mem_append.mp h with h | h
        · rcases List.mem_append.mp h with h | h
          · exact .inl (List.mem_of_mem_take h)
          · rw [List.mem_singleton.mp h]
            exact .inr (by simp)
        · exact .inl (List.mem_of_mem_drop h)
    · exact .inr (List.mem_cons_of_mem _ h)
def absF (f : Fr) : Fr := (if f.1 < 0 then -f.1 else f.1, f.2)
def betw (f : Fr) : Bool := decide (cmpF (0, 1) f ≤ 0) && decide (0 ≤ cmpF (1, 1) f)
def withinB (s t rho : Fr) : Bool := (betw s && betw t) && decide (cmpF (absF (lesF s t)) rho ≤ 0)
def sp_within : ASp := fun rs k => ∃ s t rho : Fr, rs = [.dat (fD s), .dat (fD t), .dat (fD rho)] ∧ S 430 s ∧ S 430 t ∧ S 430 rho ∧ k (.dat (.bool (withinB s t rho)))
theorem s_abs {a : Nat} {f : Fr} (h : S a f) : S a (absF f) := ⟨h.pos, by
  show Lt a (if f.1 < 0 then -f.1 else f.1)
  split
  · exact h.n.neg
  · exact h.n, h.d⟩
def sp_below : ASp := fun rs k => ∃ f g : Fr, rs = [.dat (fD f), .dat (fD g)] ∧ S 8500 f ∧ S 8500 g ∧ k (.dat (.bool (ltF f g)))
def sp_ld : ASp := fun rs k => ∃ s : Int, rs = [.dat (.int s)] ∧ (1 ≤ s ∧ s ≤ 20) ∧ ∀ r : Int, 0 ≤ r → r ≤ 42 → k (.dat (.int r))
def Nr (n : Int) (c : Col) : Prop := (-n ≤ c.1 ∧ c.1 ≤ n) ∧ (-n ≤ c.2 ∧ c.2 ≤ n)
def sp_off : ASp := fun rs k => ∃ s : Int, rs = [.dat (.int s)] ∧ (1 ≤ s ∧ s ≤ 20) ∧ ∀ cs : List Col, 0 < cs.length → cs.length ≤ 40 → (∀ c ∈ cs, Nr 60 c) → k (.fresh (cs.map cD))
def lcornF (rho : Fr) : List Cor := [((0, 1), (0, 1)), (rho, (0, 1)), ((1, 1), lesF (1, 1) rho), ((1, 1), (1, 1)), (lesF (1, 1) rho, (1, 1)), ((0, 1), rho)]
def sp_lcorn : ASp := fun rs k => ∃ rho : Fr, rs = [.dat (fD rho)] ∧ S 31 rho ∧ k (.fresh ((lcornF rho).map pD))
def sp_less : ASp := fun rs k => ∃ c d : Cor, rs = [.dat (pD c), .dat (pD d)] ∧ (S 2000 c.1 ∧ S 2000 c.2) ∧ (S 2000 d.1 ∧ S 2000 d.2) ∧ k (.dat (.bool (ltC c d)))
/-- a drawn part -/
structure Un (f : Fr) : Prop where
  lo : 0 ≤ f.1
  le : f.1 ≤ f.2
  pos : 0 < f.2
  hi : f.2 ≤ 1073741824
  red : Nat.gcd f.1.natAbs f.2.natAbs = 1
theorem Un.s {f : Fr} (h : Un f) : S 31 f := ⟨h.pos, lt_of (Nat.lt_of_le_of_lt (show f.1.natAbs ≤ 1073741824 by have := h.lo; have := h.le; have := h.hi; omega) (by decide)), lt_of (Nat.lt_of_le_of_lt (show f.2.natAbs ≤ 1073741824 by have := h.pos; have := h.hi; omega) (by decide))⟩
theorem low_un {n d : Int} (h0 : 0 ≤ n) (h1 : n ≤ d) (h2 : 0 < d) (h3 : d ≤ 1073741824) : Un (lowF n d) := by
  obtain ⟨⟨p, q⟩, r⟩ := low_ok (n := n) (Int.ne_of_gt h2)
  obtain ⟨e1, e2, _⟩ := low_red n (Int.ne_of_gt h2)
  have e1 := e1 h2
  have e2 := e2 h2
  have hg : 0 < Nat.gcd n.natAbs d.natAbs := Nat.gcd_pos_of_pos_right _ (by omega)
  refine ⟨?_, ?_, p, ?_, ?_⟩
  · show 0 ≤ lowN n d
    rw [e1]
    exact Int.ediv_nonneg h0 (by omega)
  · show lowN n d ≤ lowD n d
    rw [e1, e2]
    exact Int.ediv_le_ediv (Int.natCast_pos.mpr hg) h1
  · show lowD n d ≤ 1073741824
    omega
  · show Nat.gcd (lowN n d).natAbs (lowD n d).natAbs = 1
    rw [e1, e2]
    have a1 : (n / ((Nat.gcd n.natAbs d.natAbs : Nat) : Int)).natAbs = n.natAbs / Nat.gcd n.natAbs d.natAbs := by
      obtain ⟨m, rfl⟩ := Int.eq_ofNat_of_zero_le h0
      rw [← Int.natCast_ediv, Int.natAbs_natCast, Int.natAbs_natCast]
    have a2 : (d / ((Nat.gcd n.natAbs d.natAbs : Nat) : Int)).natAbs = d.natAbs / Nat.gcd n.natAbs d.natAbs := by
      obtain ⟨m, rfl⟩ := Int.eq_ofNat_of_zero_le (Int.le_of_lt h2)
      rw [← Int.natCast_ediv, Int.natAbs_natCast, Int.natAbs_natCast]
    rw [a1, a2]
    exact Nat.coprime_div_gcd_div_gcd hg
def sp_frac : ASp := fun rs k => rs = [.bag] ∧ ∀ f : Fr, Un f → k (.dat (fD f))
def allowedB (s t rho : Fr) : Bool := decide (0 ≤ s.1) && (decide (0 ≤ t.1) && (!ltF (1, 1) s && (!ltF (1, 1) t && !ltF rho (absF (lesF s t)))))
def sp_allowed : ASp := fun rs k => ∃ s t rho : Fr, rs = [.dat (fD s), .dat (fD t), .dat (fD rho)] ∧ S 430 s ∧ S 430 t ∧ S 430 rho ∧ k (.dat (.bool (allowedB s t rho)))
theorem lt_cms {f g : Fr} (hf : S 8500 f) (hg : S 8500 g) : CMulW f.1 g.2 ∧ CMulW g.1 f.2 := ⟨hf.n.cm hg.d (by decide) (by decide) (by decide), hg.n.cm hf.d (by decide) (by decide) (by decide)⟩
theorem ix0 {f : Fr} {k : Res → Prop} (g : k (.dat (.int f.1))) : IxQ (.dat (fD f)) (.dat (.int 0)) k := ixq_tup (atI_nat (j := 0) rfl) g
theorem ix1 {f : Fr} {k : Res → Prop} (g : k (.dat (.int f.2))) : IxQ (.dat (fD f)) (.dat (.int 1)) k := ixq_tup (atI_nat (j := 1) rfl) g
theorem eqv_cD (a b : Col) : PyData.eqv (cD a) (cD b) = decide (a = b) := eqv_fD a b
theorem sh_cD (c : Col) : SeqAt.shaped (cD c) = true := sh_fD c
def rowD (r : Rw) : PyData := .tuple [fD r.1, fD r.2.1, fD r.2.2]
def S7 (c : Cor) : Prop := S 31 c.1 ∧ S 31 c.2
theorem un_less {rho : Fr} (h : Un rho) : Un (lesF (1, 1) rho) := by
  have e : lesF (1, 1) rho = lowF (rho.2 - rho.1) rho.2 := by
    unfold lesF
    dsimp only
    rw [Int.one_mul, Int.mul_one]
  rw [e]
  have h1 := h.lo
  have h2 := h.le
  exact low_un (by omega) (by omega) h.pos h.hi
theorem un_zero : Un ((0, 1) : Fr) := ⟨by decide, by decide, by decide, by decide, by decide⟩
theorem un_one : Un ((1, 1) : Fr) := ⟨by decide, by decide, by decide, by decide, by decide⟩
theorem lcorn_un {rho : Fr} (h : Un rho) : ∀ c ∈ lcornF rho, Un c.1 ∧ Un c.2 := by
  intro c hc
  have hl := un_less h
  simp only [lcornF, List.mem_cons, List.not_mem_nil, or_false] at hc
  rcases hc with rfl | rfl | rfl | rfl | rfl | rfl
  · exact ⟨un_zero, un_zero⟩
  · exact ⟨h, un_zero⟩
  · exact ⟨un_one, hl⟩
  · exact ⟨un_one, un_one⟩
  · exact ⟨hl, un_one⟩
  · exact ⟨un_zero, h⟩
theorem z_neg : S 1 ((-1, 1) : Fr) := s_int (by decide) (lt_of (by decide))
theorem ixp0 {c : Cor} {k : Res → Prop} (g : k (.dat (fD c.1))) : IxQ (.dat (pD c)) (.dat (.int 0)) k := ixq_tup (atI_nat (j := 0) rfl) g
theorem ixp1 {c : Cor} {k : Res → Prop} (g : k (.dat (fD c.2))) : IxQ (.dat (pD c)) (.dat (.int 1)) k := ixq_tup (atI_nat (j := 1) rfl) g
theorem ixr0 {c : Rw} {k : Res → Prop} (g : k (.dat (fD c.1))) : IxQ (.dat (rowD c)) (.dat (.int 0)) k := ixq_tup (atI_nat (j := 0) rfl) g
theorem sl_row {r : Rw} {k : Res → Prop} (g : k (.dat (pD r.2))) : SlP (.dat (rowD r)) (some 1) none k := by
  refine SlP.tup ?_
  have e : cutD [fD r.1, fD r.2.1, fD r.2.2] (some 1) none = [fD r.2.1, fD r.2.2] := cut_drop [fD r.1, fD r.2.1, fD r.2.2] 1
  rw [e]
  exact g
theorem withinB_eq {s t rho : Fr} (hs : 0 < s.2) (ht : 0 < t.2) : withinB s t rho = allowedB s t rho := by
  have b : ∀ {f : Fr}, 0 < f.2 → betw f = (decide (0 ≤ f.1) && !ltF (1, 1) f) := fun {f} hf => by
    unfold betw
    have e1 : decide (cmpF (0, 1) f ≤ 0) = decide (0 ≤ f.1) := by
      rw [decide_eq_decide, cmp_le]
      unfold ltF
      rw [decide_eq_false_iff_not]
      dsimp only
      omega
    have e2 : decide (0 ≤ cmpF (1, 1) f) = !ltF (1, 1) f := by
      have := cmp_neg (1, 1) f
      cases hl : ltF (1, 1) f with
      | true =>
        have := this.mpr hl
        exact decide_eq_false (by omega)
      | false =>
        refine decide_eq_true (Int.not_lt.mp fun z => ?_)
        have := this.mp z
        rw [hl] at this
        cases this
    rw [e1, e2]
  have e3 : decide (cmpF (absF (lesF s t)) rho ≤ 0) = !ltF rho (absF (lesF s t)) := by
    have := cmp_le (absF (lesF s t)) rho
    cases hl : ltF rho (absF (lesF s t)) with
    | true =>
      refine decide_eq_false fun z => ?_
      have := this.mp z
      rw [hl] at this
      cases this
    | false => exact decide_eq_true (this.mpr hl)
  unfold withinB allowedB
  rw [b hs, b ht, e3]
  cases decide (0 ≤ s.1) <;> cases decide (0 ≤ t.1) <;> cases ltF (1, 1) s <;> cases ltF (1, 1) t <;> simp
def sp_law : ASp := fun rs k => ∃ ns : List Int, rs = [.bor (ns.map .int)] ∧ ns.length ≤ 63 ∧ k (.dat (.bool true))
theorem law_true (ns : List Int) (hl : ns.length ≤ 63) (_ : ∀ z ∈ ns, Builtin.Int.intBits z ≤ 1048576) : sp_law [.bor (ns.map .int)] fun r => r = .dat (.bool true) := ⟨ns, rfl, hl, rfl⟩
theorem small_z {i : Int} (h : Lt 400 i) : Small 122 0 (.int i) := small_int 121 (by decide) (by decide) (Nat.lt_of_lt_of_le h (by decide +kernel))
theorem small_fD {f : Fr} (h : S 400 f) : Small 255 1 (fD f) := by
  refine (small_tup (L := 122) (D := 0) 2 (by simp) fun x hx => ?_).mono (by decide) (by decide)
  simp only [List.mem_cons, List.not_mem_nil, or_false] at hx
  rcases hx with rfl | rfl
  · exact small_z h.n
  · exact small_z h.d
theorem small_pD {c : Cor} (h : S 400 c.1 ∧ S 400 c.2) : Small 520 2 (pD c) := by
  refine (small_tup (L := 255) (D := 1) 2 (by simp) fun x hx => ?_).mono (by decide) (by decide)
  simp only [List.mem_cons, List.not_mem_nil, or_false] at hx
  rcases hx with rfl | rfl
  · exact small_fD h.1
  · exact small_fD h.2
theorem sort_len {cs : List Cor} : (sortC cs).length ≤ cs.length := by
  have := fold_len cs []
  unfold sortC
  simp at this
  omega
theorem sort_mem {cs : List Cor} : ∀ c ∈ sortC cs, c ∈ cs := fun c hc => (fold_mem cs [] c hc).elim (fun z => by cases z) id
theorem cmp_val {f g : Fr} (hf : 0 < f.2) (hg : 0 < g.2) : (cmpF f g < 0 ↔ val f < val g) ∧ (cmpF f g = 0 ↔ val f = val g) := by
  have h1 := cmp_neg f g
  have h2 := cmp_le f g
  rw [lt_val hf hg, decide_eq_true_eq] at h1
  rw [lt_val hg hf, decide_eq_false_iff_not] at h2
  refine ⟨h1, ?_⟩
  constructor
  · intro h
    have a := h2.mp (by omega)
    have b : ¬ val f < val g := fun z => by
      have := h1.mpr z
      omega
    grind
  · intro h
    have a := h2.mpr (by grind)
    have b : ¬ cmpF f g < 0 := fun z => by
      have := h1.mp z
      grind
    omega
def partsT (a b : Rw) : Int := if cmpF a.1 b.1 = 0 then (if cmpF a.2.1 b.2.1 = 0 then cmpF a.2.2 b.2.2 else cmpF a.2.1 b.2.1) else cmpF a.1 b.1
theorem partsT_neg {a b : Rw} (ha : RdT a) (hb : RdT b) : partsT a b < 0 ↔ ¬ lexLe (vT b) (vT a) := by
  obtain ⟨p1, q1⟩ := cmp_val ha.1.1 hb.1.1
  obtain ⟨p2, q2⟩ := cmp_val ha.2.1.1 hb.2.1.1
  obtain ⟨p3, q3⟩ := cmp_val ha.2.2.1 hb.2.2.1
  unfold partsT lexLe vT
  dsimp only
  by_cases h1 : cmpF a.1 b.1 = 0
  · rw [if_pos h1]
    have e1 := q1.mp h1
    by_cases h2 : cmpF a.2.1 b.2.1 = 0
    · rw [if_pos h2, p3]
      have e2 := q2.mp h2
      clear p1 p2 p3 q1 q2 q3 h1 h2
      grind
    · rw [if_neg h2, p2]
      have e2 : val a.2.1 ≠ val b.2.1 := fun z => h2 (q2.mpr z)
      clear p1 p2 p3 q1 q2 q3 h1 h2
      grind
  · rw [if_neg h1, p1]
    have e1 : val a.1 ≠ val b.1 := fun z => h1 (q1.mpr z)
    clear p1 p2 p3 q1 q2 q3 h1
    grind
def sp_parts3 : ASp := fun rs k => ∃ a b : Rw, rs = [.dat (rowD a), .dat (rowD b)] ∧ Row a ∧ Row b ∧ k (.dat (.int (partsT a b)))
def S97 (c : Cor) : Prop := S 430 c.1 ∧ S 430 c.2
/-- the nearest place of a side, as the program tells it -/
def SideP (l m : Leg) (c d y : Cor) : Prop := S97 y ∧ RdC y ∧ ((Cq l m (vC c) (vC d) = 0 ∧ y = c) ∨ Best l m (vC c) (vC d) (vC y))
def sp_side : ASp := fun rs k => ∃ (l m : Leg) (c d : Cor), rs = [.dat (lD l), .dat (lD m), .dat (pD c), .dat (pD d)] ∧ Bl l ∧ Bl m ∧ (S7 c ∧ RdC c) ∧ (S7 d ∧ RdC d) ∧ ∀ y : Cor, SideP l m c d y → k (.dat (pD y))
def CrossP (l m : Leg) : Option Cor → Prop
  | none => ∀ z, ¬ Meet l m z
  | some c => RdC c ∧ (S 90 c.1 ∧ S 90 c.2) ∧ Meet l m (vC c)
def sp_cross : ASp := fun rs k => ∃ l m : Leg, rs = [.dat (lD l), .dat (lD m)] ∧ Bl l ∧ Bl m ∧ ∀ o : Option Cor, CrossP l m o → k (.dat ((o.map pD).getD .none))
theorem lt_13 {i j : Int} (h1 : -1048576 < i ∧ i < 1048576) (h2 : -1048576 < j ∧ j < 1048576) : Lt 21 (i - j) := lt_cc h1 h2
def sqRow (l m : Leg) (y : Cor) : Rw := (sqF l m y.1 y.2, y.1, y.2)
def NearR (l m : Leg) (rho : Fr) (r : Rw) : Prop := Row r ∧ RdT r ∧ r.1 = sqF l m r.2.1 r.2.2 ∧ Near l m (val rho) (vT r)
def sp_near : ASp := fun rs k => ∃ (l m : Leg) (rho : Fr), rs = [.dat (lD l), .dat (lD m), .dat (fD rho)] ∧ Bl l ∧ Bl m ∧ Un rho ∧ ∀ r : Rw, NearR l m rho r → k (.dat (rowD r))
theorem vT_sq {l m : Leg} {y : Cor} (hy : RdC y) : vT (sqRow l m y) = Frac.T l m (vC y) := by
  unfold vT sqRow Frac.T vC
  dsimp only
  rw [val_sq l m hy.1.1 hy.2.1]
theorem rd_sqRow {l m : Leg} {y : Cor} (hy : RdC y) : RdT (sqRow l m y) := ⟨rd_sq l m hy.1.1 hy.2.1, hy.1, hy.2⟩
theorem row_sq {l m : Leg} {y : Cor} (hl : Bl l) (hm : Bl m) (hy : S97 y) : Row (sqRow l m y) := ⟨z_sq hl hm hy.1 hy.2 (by decide), hy.1, hy.2⟩
theorem near_list {l m : Leg} {rho : Fr} {ps : List Cor} {y0 : Cor} (rd : ∀ y ∈ ps, RdC y) (h1 : ∀ y ∈ ps, Cand l m (val rho) (vC y)) (h2 : ∀ z, Cand l m (val rho) z → ∃ y ∈ ps, vC y = z) (hy : y0 ∈ ps)
    (hmin : ∀ y ∈ ps, lexLe (vT (sqRow l m y0)) (vT (sqRow l m y))) : Near l m (val rho) (vT (sqRow l m y0)) := by
  refine ⟨⟨vC y0, h1 y0 hy, vT_sq (rd y0 hy)⟩, fun z hz => ?_⟩
  obtain ⟨y, h, e⟩ := h2 z hz
  have := hmin y h
  rw [vT_sq (rd y h), e] at this
  exact this
theorem v_zero : val ((0, 1) : Fr) = 0 := by rw [val_int, Rat.intCast_zero]
theorem v_one : val ((1, 1) : Fr) = 1 := by rw [val_int, Rat.intCast_one]
theorem Un.rd {f : Fr} (h : Un f) : Rd f := ⟨h.pos, h.red⟩
theorem v_less {rho : Fr} (h : Un rho) : val (lesF (1, 1) rho) = 1 - val rho := by rw [val_les one_pos h.pos, v_one]
theorem Un.v {f : Fr} (h : Un f) : 0 ≤ val f ∧ val f ≤ 1 := by
  refine ⟨(val_nonneg h.pos).mp h.lo, (val_le_one h.pos).mp ?_⟩
  unfold ltF
  have := h.le
  exact decide_eq_false (by dsimp only; omega)
def edgesF (rho : Fr) : List (Cor × Cor) := [(((0, 1), (0, 1)), ((0, 1), rho)), (((0, 1), rho), (lesF (1, 1) rho, (1, 1))), ((lesF (1, 1) rho, (1, 1)), ((1, 1), (1, 1))), (((1, 1), (1, 1)), ((1, 1), lesF (1, 1) rho)), (((1, 1), lesF (1, 1) rho), (rho, (0, 1))), ((rho, (0, 1)), ((0, 1), (0, 1)))]
theorem edgesF_v {rho : Fr} (h : Un rho) : (edgesF rho).map (fun e => (vC e.1, vC e.2)) = edges (val rho) := by
  unfold edgesF edges vC
  simp only [List.map_cons, List.map_nil, v_zero, v_one, v_less h]
theorem edgesF_un {rho : Fr} (h : Un rho) : ∀ e ∈ edgesF rho, (S7 e.1 ∧ RdC e.1) ∧ (S7 e.2 ∧ RdC e.2) := by
  have hl := un_less h
  have g : ∀ {a b : Fr}, Un a → Un b → S7 (a, b) ∧ RdC (a, b) := fun ha hb => ⟨⟨ha.s, hb.s⟩, ha.rd, hb.rd⟩
  intro e he
  simp only [edgesF, List.mem_cons, List.not_mem_nil, or_false] at he
  rcases he with rfl | rfl | rfl | rfl | rfl | rfl
  · exact ⟨g un_zero un_zero, g un_zero h⟩
  · exact ⟨g un_zero h, g hl un_one⟩
  · exact ⟨g hl un_one, g un_one un_one⟩
  · exact ⟨g un_one un_one, g un_one hl⟩
  · exact ⟨g un_one hl, g h un_zero⟩
  · exact ⟨g h un_zero, g un_zero un_zero⟩
theorem ring_edges (rho : Fr) : ringF rho = (edgesF rho).map (·.1) := rfl
/-- the places that the program tells make up all candidates -/
theorem cand_of {l m : Leg} {rho : Fr} (hu : Un rho) {ys : List Cor} {o : Option Cor} (h1 : ∀ y ∈ ys, ∃ e ∈ edgesF rho, SideP l m e.1 e.2 y) (h2 : ∀ e ∈ edgesF rho, ∃ y ∈ ys, SideP l m e.1 e.2 y)
    (h3 : ∀ y, o = some y → Frac.H (val rho) (vC y) ∧ Meet l m (vC y)) (h4 : o = none → ∀ z, Frac.H (val rho) z → ¬ Meet l m z) :
    (∀ y ∈ ringF rho ++ ys ++ o.toList, Cand l m (val rho) (vC y)) ∧ ∀ z, Cand l m (val rho) z → ∃ y ∈ ringF rho ++ ys ++ o.toList, vC y = z := by
  have up : ∀ e ∈ edgesF rho, (vC e.1, vC e.2) ∈ edges (val rho) := fun e he => by rw [← edgesF_v hu]; exact List.mem_map_of_mem he
  have down : ∀ f ∈ edges (val rho), ∃ e ∈ edgesF rho, (vC e.1, vC e.2) = f := fun f hf => by
    rw [← edgesF_v hu] at hf
    exact List.mem_map.mp hf
  refine ⟨fun y hy => ?_, fun z hz => ?_⟩
  · rcases List.mem_append.mp hy with hy | hy
    · rcases List.mem_append.mp hy with hy | hy
      · rw [ring_edges] at hy
        obtain ⟨e, he, rfl⟩ := List.mem_map.mp hy
        exact .inl ⟨_, up e he, rfl⟩
      · obtain ⟨e, he, _, _, h⟩ := h1 y hy
        rcases h with ⟨_, rfl⟩ | h
        · exact .inl ⟨_, up e he, rfl⟩
        · exact .inr (.inl ⟨_, up e he, h⟩)
    · cases o with
      | none => cases hy
      | some c =>
        obtain rfl : y = c := by simpa using hy
        exact .inr (.inr (h3 y rfl))
  · rcases hz with ⟨f, hf, rfl⟩ | ⟨f, hf, hb⟩ | ⟨hh, hm⟩
    · obtain ⟨e, he, rfl⟩ := down f hf
      refine ⟨e.1, List.mem_append_left _ (List.mem_append_left _ ?_), rfl⟩
      rw [ring_edges]
      exact List.mem_map_of_mem he
    · obtain ⟨e, he, rfl⟩ := down f hf
      obtain ⟨y, hy, _, _, h⟩ := h2 e he
      rcases h with ⟨hc, _⟩ | h
      · obtain ⟨_, _, _, _, hp, _⟩ := hb
        dsimp only at hp
        rw [hc] at hp
        exact absurd hp (by grind)
      · exact ⟨y, List.mem_append_left _ (List.mem_append_right _ hy), best_one h hb⟩
    · cases o with
      | none => exact absurd hm (h4 rfl z hh)
      | some c => exact ⟨c, List.mem_append_right _ (by simp), meet_one (h3 c rfl).2 hm⟩
theorem abs_ok {s t : Fr} (hs : 0 < s.2) (ht : 0 < t.2) : 0 < (absF (lesF s t)).2 ∧ ((0 ≤ val s - val t ∧ val (absF (lesF s t)) = val s - val t) ∨ (val s - val t ≤ 0 ∧ val (absF (lesF s t)) = val t - val s)) := by
  have h := abs_les (g1 := (lesF s t).1) (g2 := (lesF s t).2) hs ht rfl
  refine ⟨h.1, ?_⟩
  unfold absF
  rcases h.2 with ⟨a, b, c⟩ | ⟨a, b, c⟩
  · rw [if_neg (by omega)]
    exact .inl ⟨a, c⟩
  · rw [if_pos b]
    exact .inr ⟨a, c⟩
theorem allowed_H {s t rho : Fr} (hs : 0 < s.2) (ht : 0 < t.2) (hr : 0 < rho.2) : allowedB s t rho = true ↔ Frac.H (val rho) (val s, val t) := by
  obtain ⟨a1, a2⟩ := abs_ok hs ht
  rw [← in_H hs ht hr a1 a2]
  unfold allowedB
  simp only [Bool.and_eq_true, decide_eq_true_eq, Bool.not_eq_true']
theorem within_H {s t rho : Fr} (hs : 0 < s.2) (ht : 0 < t.2) (hr : 0 < rho.2) : withinB s t rho = true ↔ Frac.H (val rho) (val s, val t) := by
  rw [withinB_eq hs ht]
  exact allowed_H hs ht hr
def sp_apart : ASp := fun rs k => ∃ (l m : Leg) (rho : Fr) (r : Int), rs = [.dat (lD l), .dat (lD m), .dat (fD rho), .dat (.int r)] ∧ Bl l ∧ Bl m ∧ Un rho ∧ (-10000 < r ∧ r < 10000) ∧ ∀ q : Rw, NearR l m rho q → k (.dat (.bool (decide (0 ≤ cmpF q.1 (r * r, 1)))))
/-- the nearest place of a side as the law tells it -/
def EdgeV (l m : Leg) (c d w : Pt) : Prop := (Cq l m c d = 0 ∧ (w = c ∨ w = d) ∧ lexLe (Frac.T l m w) (Frac.T l m c) ∧ lexLe (Frac.T l m w) (Frac.T l m d)) ∨ Best l m c d w
def sp_edge : ASp := fun rs k => ∃ (l m : Leg) (c d : Cor), rs = [.dat (lD l), .dat (lD m), .dat (pD c), .dat (pD d)] ∧ Bl l ∧ Bl m ∧ (S7 c ∧ RdC c) ∧ (S7 d ∧ RdC d) ∧ ∀ y : Cor, S97 y → RdC y → EdgeV l m (vC c) (vC d) (vC y) → k (.dat (rowD (sqRow l m y)))
theorem edgeV_T {l m : Leg} {c d w z : Pt} (h : EdgeV l m c d w) (g : EdgeV l m c d z) : Frac.T l m w = Frac.T l m z := by
  rcases h with ⟨h1, h2, h3, h4⟩ | h
  · rcases g with ⟨g1, g2, g3, g4⟩ | g
    · refine lexLe_anti ?_ ?_
      · rcases g2 with rfl | rfl
        · exact h3
        · exact h4
      · rcases h2 with rfl | rfl
        · exact g3
        · exact g4
    · obtain ⟨_, _, _, _, hp, _⟩ := g
      rw [h1] at hp
      exact absurd hp (by grind)
  · rcases g with ⟨g1, _⟩ | g
    · obtain ⟨_, _, _, _, hp, _⟩ := h
      rw [g1] at hp
      exact absurd hp (by grind)
    · rw [best_one h g]
theorem edgeV_flip {l m : Leg} {c d w : Pt} (h : EdgeV l m c d w) : EdgeV l m d c w := by
  rcases h with ⟨h1, h2, h3, h4⟩ | h
  · exact .inl ⟨by rw [C_flip]; exact h1, h2.symm, h4, h3⟩
  · exact .inr (best_flip h)
def ledgesF (rho : Fr) : List (Cor × Cor) := [(((0, 1), (0, 1)), (rho, (0, 1))), ((rho, (0, 1)), ((1, 1), lesF (1, 1) rho)), (((1, 1), lesF (1, 1) rho), ((1, 1), (1, 1))), (((1, 1), (1, 1)), (lesF (1, 1) rho, (1, 1))), ((lesF (1, 1) rho, (1, 1)), ((0, 1), rho)), (((0, 1), rho), ((0, 1), (0, 1)))]
theorem ledges_un {rho : Fr} (h : Un rho) : ∀ e ∈ ledgesF rho, (S7 e.1 ∧ RdC e.1) ∧ (S7 e.2 ∧ RdC e.2) := by
  have hl := un_less h
  have g : ∀ {a b : Fr}, Un a → Un b → S7 (a, b) ∧ RdC (a, b) := fun ha hb => ⟨⟨ha.s, hb.s⟩, ha.rd, hb.rd⟩
  intro e he
  simp only [ledgesF, List.mem_cons, List.not_mem_nil, or_false] at he
  rcases he with rfl | rfl | rfl | rfl | rfl | rfl
  · exact ⟨g un_zero un_zero, g h un_zero⟩
  · exact ⟨g h un_zero, g un_one hl⟩
  · exact ⟨g un_one hl, g un_one un_one⟩
  · exact ⟨g un_one un_one, g hl un_one⟩
  · exact ⟨g hl un_one, g un_zero h⟩
  · exact ⟨g un_zero h, g un_zero un_zero⟩
theorem ledges_edges {rho : Fr} (h : Un rho) : (∀ e ∈ ledgesF rho, (vC e.2, vC e.1) ∈ edges (val rho)) ∧ ∀ f ∈ edges (val rho), ∃ e ∈ ledgesF rho, f = (vC e.2, vC e.1) := by
  have hm : (ledgesF rho).map (fun e => (vC e.2, vC e.1)) = [((val rho, 0), (0, 0)), ((1, 1 - val rho), (val rho, 0)), ((1, 1), (1, 1 - val rho)), ((1 - val rho, 1), (1, 1)), ((0, val rho), (1 - val rho, 1)), ((0, 0), (0, val rho))] := by
    unfold ledgesF vC
    simp only [List.map_cons, List.map_nil, v_zero, v_one, v_less h]
  have mem : ∀ f, f ∈ (ledgesF rho).map (fun e => (vC e.2, vC e.1)) ↔ f ∈ edges (val rho) := fun f => by
    rw [hm]
    unfold edges
    simp only [List.mem_cons, List.not_mem_nil, or_false]
    constructor
    · rintro (h | h | h | h | h | h) <;> simp [h]
    · rintro (h | h | h | h | h | h) <;> simp [h]
  refine ⟨fun e he => (mem _).mp (List.mem_map_of_mem he), fun f hf => ?_⟩
  obtain ⟨e, he, e2⟩ := List.mem_map.mp ((mem f).mpr hf)
  exact ⟨e, he, e2.symm⟩
def InnP (l m : Leg) (rho : Fr) : Option Cor → Prop
  | none => ∀ z, Frac.H (val rho) z → ¬ Meet l m z
  | some y => RdC y ∧ S97 y ∧ Frac.H (val rho) (vC y) ∧ Meet l m (vC y)
def sp_inner : ASp := fun rs k => ∃ (l m : Leg) (rho : Fr), rs = [.dat (lD l), .dat (lD m), .dat (fD rho)] ∧ Bl l ∧ Bl m ∧ Un rho ∧ ∀ o : Option Cor, InnP l m rho o → k (.fresh ((o.toList.map (sqRow l m)).map rowD))
theorem ltC_v {c d : Cor} (hc : RdC c) (hd : RdC d) : (ltC c d = true → (vC c).1 < (vC d).1 ∨ ((vC c).1 = (vC d).1 ∧ (vC c).2 < (vC d).2)) ∧ (ltC c d = false → (vC d).1 < (vC c).1 ∨ ((vC d).1 = (vC c).1 ∧ (vC d).2 ≤ (vC c).2)) := by
  unfold ltC vC
  dsimp only
  by_cases h : c.1 = d.1
  · rw [if_pos h, lt_val hc.2.1 hd.2.1, h]
    refine ⟨fun g => .inr ⟨rfl, of_decide_eq_true g⟩, fun g => .inr ⟨rfl, Rat.not_lt.mp (of_decide_eq_false g)⟩⟩
  · rw [if_neg h, lt_val hc.1.1 hd.1.1]
    have hv : val c.1 ≠ val d.1 := fun e => h (val_inj hc.1 hd.1 e)
    refine ⟨fun g => .inl (of_decide_eq_true g), fun g => ?_⟩
    have := Rat.not_lt.mp (of_decide_eq_false g)
    refine .inl ?_
    grind
theorem flat_edge {l m : Leg} {c d y : Cor} (hc : RdC c) (hd : RdC d) (hC : Cq l m (vC c) (vC d) = 0) (hy : (ltC d c = true ∧ vC y = vC d) ∨ (ltC d c = false ∧ vC y = vC c)) : EdgeV l m (vC c) (vC d) (vC y) := by
  have q : Frac.Q l m (vC d) = Frac.Q l m (vC c) := by
    have := Q_flat (x := 1) hC
    have e1 : mid (vC c) (vC d) 1 = vC d := by unfold mid; ext <;> grind
    rw [e1] at this
    exact this
  obtain ⟨p1, p2⟩ := ltC_v hd hc
  refine .inl ⟨hC, ?_, ?_, ?_⟩
  · rcases hy with ⟨_, h⟩ | ⟨_, h⟩
    · exact .inr h
    · exact .inl h
  · rcases hy with ⟨h0, h⟩ | ⟨h0, h⟩
    · rw [h]
      unfold lexLe Frac.T
      dsimp only
      rcases p1 h0 with g | ⟨g1, g2⟩
      · exact .inr ⟨q, .inl g⟩
      · exact .inr ⟨q, .inr ⟨g1, Rat.le_of_lt g2⟩⟩
    · rw [h]
      exact lexLe_refl _
  · rcases hy with ⟨h0, h⟩ | ⟨h0, h⟩
    · rw [h]
      exact lexLe_refl _
    · rw [h]
      unfold lexLe Frac.T
      dsimp only
      rcases p2 h0 with g | ⟨g1, g2⟩
      · exact .inr ⟨q.symm, .inl g⟩
      · exact .inr ⟨q.symm, .inr ⟨g1, g2⟩⟩
theorem cut_val {p : Fr} (hp : 0 < p.2) {a : Fr} (h : (p.1 < 0 ∧ a = (0, 1)) ∨ (¬ p.1 < 0 ∧ ltF (1, 1) p = true ∧ a = (1, 1)) ∨ (¬ p.1 < 0 ∧ ltF (1, 1) p = false ∧ a = p)) : (val p ≤ 0 ∧ val a = 0) ∨ (1 ≤ val p ∧ val a = 1) ∨ (0 ≤ val p ∧ val p ≤ 1 ∧ val a = val p) := by
  have n := val_nonneg hp
  have o := val_le_one hp
  rcases h with ⟨h1, rfl⟩ | ⟨h1, h2, rfl⟩ | ⟨h1, h2, rfl⟩
  · refine .inl ⟨?_, v_zero⟩
    have : ¬ 0 ≤ val p := fun z => by
      have := n.mpr z
      omega
    grind
  · refine .inr (.inl ⟨?_, v_one⟩)
    have : ¬ val p ≤ 1 := fun z => by
      have := o.mpr z
      rw [h2] at this
      cases this
    grind
  · exact .inr (.inr ⟨n.mp (by omega), o.mp h2, rfl⟩)
theorem lt_lex {a b : Rw} (ha : RdT a) (hb : RdT b) : (ltF a.1 b.1 = true → lexLe (vT a) (vT b)) ∧ (ltF a.1 b.1 = false → a.1 ≠ b.1 → lexLe (vT b) (vT a)) ∧ (a.1 = b.1 → ltC a.2 b.2 = true → lexLe (vT a) (vT b)) ∧ (a.1 = b.1 → ltC a.2 b.2 = false → lexLe (vT b) (vT a)) := by
  rw [lt_val ha.1.1 hb.1.1]
  obtain ⟨p, q⟩ := ltC_v (c := a.2) (d := b.2) ⟨ha.2.1, ha.2.2⟩ ⟨hb.2.1, hb.2.2⟩
  refine ⟨fun h => .inl (of_decide_eq_true h), fun h hn => .inl ?_, fun e h => .inr ⟨by unfold vT; rw [e], ?_⟩, fun e h => .inr ⟨by unfold vT; rw [e], ?_⟩⟩
  · have h := Rat.not_lt.mp (of_decide_eq_false h)
    have hv : val a.1 ≠ val b.1 := fun z => hn (val_inj ha.1 hb.1 z)
    show val b.1 < val a.1
    grind
  · rcases p h with g | ⟨g1, g2⟩
    · exact .inl g
    · exact .inr ⟨g1, Rat.le_of_lt g2⟩
  · exact q h
theorem lawc_of {l m : Leg} {rho : Fr} (hu : Un rho) {ys : List Cor} {o : Option Cor} (ho : InnP l m rho o) (h1 : ∀ y ∈ o.toList, y ∈ ys) (h2 : ∀ e ∈ ledgesF rho, ∃ y ∈ ys, EdgeV l m (vC e.1) (vC e.2) (vC y)) :
    ∀ z, LawC l m (val rho) z → ∃ y ∈ ys, Frac.T l m (vC y) = Frac.T l m z := by
  intro z hz
  rcases hz with ⟨e, he, h⟩ | ⟨hH, hM⟩
  · obtain ⟨f, hf, rfl⟩ := (ledges_edges hu).2 e he
    obtain ⟨y, hy, hv⟩ := h2 f hf
    refine ⟨y, hy, edgeV_T (edgeV_flip hv) ?_⟩
    rcases h with h | h
    · exact .inl h
    · exact .inr h
  · cases o with
    | none => exact absurd hM (ho z hH)
    | some c => exact ⟨c, h1 c (by simp), by rw [meet_one ho.2.2.2 hM]⟩
theorem edgeV_law {l m : Leg} {rho : Fr} (hu : Un rho) {e : Cor × Cor} (he : e ∈ ledgesF rho) {w : Pt} (h : EdgeV l m (vC e.1) (vC e.2) w) : LawC l m (val rho) w := by
  refine .inl ⟨_, (ledges_edges hu).1 e he, ?_⟩
  rcases edgeV_flip h with h | h
  · exact .inl h
  · exact .inr h
def rowsD (l m : Leg) (ys : List Cor) : List PyData := (ys.map (sqRow l m)).map rowD
def sp_some_couple : ASp := fun rs k => rs = [.bag] ∧ ∀ (l m : Leg) (rho : Fr) (r : Int), Bs l → Bs m → Un rho → (1 ≤ r ∧ r ≤ 500) → k (.dat (.tuple [lD l, lD m, fD rho, .int r]))
def sp_led : ASp := fun rs k => ∃ (l : Leg) (q dx dy : Int), rs = [.dat (lD l), .dat (.int q), .dat (.int dx), .dat (.int dy)] ∧ (1 ≤ q ∧ q ≤ 4) ∧ (-50 ≤ dx ∧ dx ≤ 50) ∧ (-50 ≤ dy ∧ dy ≤ 50) ∧ Bs l ∧ k (.dat (lD (ledL q dx dy l)))
theorem led_bt {c : Col} {q dx dy : Int} (h : Bt c) (hq : 1 ≤ q ∧ q ≤ 4) (h1 : -50 ≤ dx ∧ dx ≤ 50) (h2 : -50 ≤ dy ∧ dy ≤ 50) : Bc (led q dx dy c) := by
  obtain ⟨⟨a1, a2⟩, a3, a4⟩ := h
  obtain ⟨q1, q2⟩ := hq
  have cases : q = 1 ∨ q = 2 ∨ q = 3 ∨ q = 4 := by omega
  unfold led Bc
  dsimp only
  rcases cases with rfl | rfl | rfl | rfl <;> exact ⟨⟨by omega, by omega⟩, by omega, by omega⟩
theorem led_bl {l : Leg} {q dx dy : Int} (h : Bs l) (hq : 1 ≤ q ∧ q ≤ 4) (h1 : -50 ≤ dx ∧ dx ≤ 50) (h2 : -50 ≤ dy ∧ dy ≤ 50) : Bl (ledL q dx dy l) := ⟨led_bt h.1 hq h1 h2, led_bt h.2 hq h1 h2⟩
theorem near_uniq {l m : Leg} {rho : Fr} {a b : Rw} (h : NearR l m rho a) (g : NearR l m rho b) : a = b := vT_inj h.2.1 g.2.1 (near_one h.2.2.2 g.2.2.2)
theorem near_wide {l m : Leg} {rho : Fr} {a b : Rw} {q dx dy : Int} (hq : 0 < q) (h : NearR l m rho a) (g : NearR (ledL q dx dy l) (ledL q dx dy m) rho b) : b = (mulF (q * q, 1) a.1, a.2) := by
  have e := near_one g.2.2.2 (near_led (dx := dx) (dy := dy) hq h.2.2.2)
  refine vT_inj g.2.1 ⟨rd_mul one_pos h.2.1.1.1, h.2.1.2.1, h.2.1.2.2⟩ ?_
  rw [e]
  unfold vT
  dsimp only
  rw [val_mul one_pos h.2.1.1.1, val_int, Rat.intCast_mul]
theorem near_flip {l m : Leg} {rho : Fr} (hu : Un rho) {a b : Rw} (h : NearR l m rho a) (g : NearR m l rho b) : b.1 = a.1 := by
  obtain ⟨h0, h1⟩ := hu.v
  have e := near_swap h0 h1 h.2.2.2 g.2.2.2
  unfold vT at e
  exact val_inj g.2.1.1 h.2.1.1 e.symm
theorem near_raster {l m : Leg} {rho s t : Fr} (hu : Un rho) {a : Rw} (h : NearR l m rho a) (hs : 0 < s.2) (ht : 0 < t.2) (hal : allowedB s t rho = true) : ltF (sqF l m s t) a.1 = false := by
  obtain ⟨h0, h1⟩ := hu.v
  have p := near_min h0 h1 h.2.2.2 ((allowed_H hs ht hu.pos).mp hal)
  rw [ltF_false (rd_sq l m hs ht).1 h.2.1.1.1, val_sq l m hs ht]
  exact p
theorem near_s {l m : Leg} {rho : Fr} (hl : Bl l) (hm : Bl m) (hu : Un rho) {a : Rw} (h : NearR l m rho a) : S 400 a.1 ∧ S 400 a.2.1 ∧ S 400 a.2.2 := by
  obtain ⟨h1, h2, h3⟩ := near_small hl hm ⟨hu.lo, hu.le, hu.pos, hu.hi⟩ h.2.1 h.2.2.2
  exact ⟨h1.mono (by decide), h2.mono (by decide), h3.mono (by decide)⟩
theorem small_row {a : Rw} (h : S 400 a.1 ∧ S 400 a.2.1 ∧ S 400 a.2.2) : Small 780 2 (rowD a) := by
  refine (small_tup (L := 255) (D := 1) 3 (by simp) fun x hx => ?_).mono (by decide) (by decide)
  simp only [List.mem_cons, List.not_mem_nil, or_false] at hx
  rcases hx with rfl | rfl | rfl
  · exact small_fD h.1
  · exact small_fD h.2.1
  · exact small_fD h.2.2
theorem ixr1 {c : Rw} {k : Res → Prop} (g : k (.dat (fD c.2.1))) : IxQ (.dat (rowD c)) (.dat (.int 1)) k := ixq_tup (atI_nat (j := 1) rfl) g
theorem ixr2 {c : Rw} {k : Res → Prop} (g : k (.dat (fD c.2.2))) : IxQ (.dat (rowD c)) (.dat (.int 2)) k := ixq_tup (atI_nat (j := 2) rfl) g
theorem apart_eq (f g : Fr) : decide (0 ≤ cmpF f g) = !ltF f g := by
  have := cmp_neg f g
  cases hl : ltF f g with
  | true =>
    have := this.mpr hl
    exact decide_eq_false (by omega)
  | false =>
    refine decide_eq_true (Int.not_lt.mp fun z => ?_)
    have := this.mp z
    rw [hl] at this
    cases this
end My

namespace Frac
variable [Dl.LamT]
open PySem L2 Dl
/-! ### a paper of two legs that tells a direction -/
theorem part_ex {a b : Rat} (h0 : 0 ≤ a) (h1 : a ≤ b) : ∃ u : Rat, 0 ≤ u ∧ u ≤ 1 ∧ u * b = a := by
  by_cases hb : b = 0
  · exact ⟨0, by grind, by grind, by grind⟩
  · have bp : 0 < b := by grind
    refine ⟨a / b, ?_, ?_, by grind⟩
    · rw [Rat.div_def]
      exact Rat.mul_nonneg h0 (Rat.le_of_lt (Rat.inv_pos.mpr bp))
    · exact Rat.not_lt.mp fun hn => by
        have := Rat.mul_pos (show 0 < a / b - 1 by grind) bp
        have e : a / b * b = a := by grind
        grind
/-- what is even is above a bound in the whole if it is at the corners -/
theorem hull_ge {F : Pt → Rat} (ev : ∀ c d x, F (mid c d x) = F c + x * (F d - F c)) {r k : Rat} (h0 : 0 ≤ r) (hc : ∀ e ∈ edges r, k ≤ F e.1) {z : Pt} (hz : H r z) : k ≤ F z := by
  have c1 := hc ((0, 0), (0, r)) (by simp [edges])
  have c2 := hc ((0, r), (1 - r, 1)) (by simp [edges])
  have c3 := hc ((1 - r, 1), (1, 1)) (by simp [edges])
  have c4 := hc ((1, 1), (1, 1 - r)) (by simp [edges])
  have c5 := hc ((1, 1 - r), (r, 0)) (by simp [edges])
  have c6 := hc ((r, 0), (0, 0)) (by simp [edges])
  dsimp only at c1 c2 c3 c4 c5 c6
  obtain ⟨⟨a1, a2⟩, ⟨b1, b2⟩, d1, d2⟩ := hz
  by_cases hs : z.1 ≤ z.2
  · obtain ⟨u, u0, u1, ue⟩ := part_ex (a := z.2 - z.1) (b := r) (by grind) d2
    obtain ⟨w, w0, w1, we⟩ := part_ex (a := z.1) (b := 1 - (z.2 - z.1)) a1 (by grind)
    have e : z = mid (mid (0, 0) (0, r) u) (mid (1, 1) (1 - r, 1) u) w := by
      unfold mid
      ext <;> dsimp only <;> grind
    rw [e, ev]
    refine conv_ge w0 w1 ?_ ?_
    · rw [ev]
      exact conv_ge u0 u1 c1 c2
    · rw [ev]
      exact conv_ge u0 u1 c4 c3
  · obtain ⟨u, u0, u1, ue⟩ := part_ex (a := z.1 - z.2) (b := r) (by grind) d1
    obtain ⟨w, w0, w1, we⟩ := part_ex (a := z.2) (b := 1 - (z.1 - z.2)) b1 (by grind)
    have e : z = mid (mid (0, 0) (r, 0) u) (mid (1, 1) (1, 1 - r) u) w := by
      unfold mid
      ext <;> dsimp only <;> grind
    rw [e, ev]
    refine conv_ge w0 w1 ?_ ?_
    · rw [ev]
      exact conv_ge u0 u1 c1 c6
    · rw [ev]
      exact conv_ge u0 u1 c4 c5
section
variable {l m : Leg} {r : Rat} {y c : Pt}
/-- at the nearest place no other one lies behind -/
theorem near_turn (hy : H r y) (hmin : ∀ p, H r p → Q l m y ≤ Q l m p) (hc : H r c) : 0 ≤ Bq l m y c := by
  refine Rat.not_lt.mp fun hn => ?_
  have C0 := Cq_nonneg l m y c
  have key : ∀ x : Rat, 0 ≤ x → x ≤ 1 → 0 ≤ 2 * x * Bq l m y c + x * x * Cq l m y c := fun x h0 h1 => by
    have := hmin _ (H_mid h0 h1 hy hc)
    rw [Q_mid] at this
    grind
  generalize Bq l m y c = B at *
  generalize Cq l m y c = C at *
  by_cases hC : C ≤ -B
  · have := key 1 (by grind) (by grind)
    grind
  · have cp : 0 < C := by grind
    obtain ⟨x, x0, x1, xe⟩ := part_ex (a := -B) (b := C) (by grind) (by grind)
    have k := key x x0 x1
    have e : 2 * x * B + x * x * C = x * B := by grind
    rw [e] at k
    have xp : 0 < x := by
      by_cases hx : x = 0
      · rw [hx] at xe
        grind
      · grind
    have := Rat.mul_pos xp (show 0 < -B by grind)
    grind
/-- how far a place lies along a direction -/
def along (l m : Leg) (p q : Int) (z : Pt) : Rat := (p : Rat) * gx l m z + (q : Rat) * gy l m z
theorem along_mid (p q : Int) (c d : Pt) (x : Rat) : along l m p q (mid c d x) = along l m p q c + x * (along l m p q d - along l m p q c) := by
  unfold along
  rw [gx_mid, gy_mid]
  grind
def size (r p q : Int) : Rat := ((r * r * (p * p + q * q) : Int) : Rat)
theorem size_eq (r p q : Int) : size r p q = (r : Rat) * r * ((p : Rat) * p + (q : Rat) * q) := by
  unfold size
  simp only [Rat.intCast_mul, Rat.intCast_add]
/-- all corners lie far along -/
def FarV (l m : Leg) (rho : Rat) (r p q : Int) : Prop := (p ≠ 0 ∨ q ≠ 0) ∧ ∀ e ∈ edges rho, 0 < along l m p q e.1 ∧ size r p q ≤ along l m p q e.1 * along l m p q e.1
theorem sq_le {a b : Rat} (h0 : 0 ≤ a) (h : a ≤ b) : a * a ≤ b * b := by
  have p := Rat.mul_nonneg h0 (show 0 ≤ b - a by grind)
  have q := Rat.mul_nonneg (show 0 ≤ b by grind) (show 0 ≤ b - a by grind)
  grind
theorem le_sq {a b : Rat} (h0 : 0 ≤ b) (h : a * a ≤ b * b) : a ≤ b := by
  refine Rat.not_lt.mp fun hn => ?_
  have p := Rat.mul_pos (show 0 < a by grind) (show 0 < a - b by grind)
  have q := Rat.mul_nonneg h0 (show 0 ≤ a - b by grind)
  grind
/-- the direction of the nearest place leads far along -/
theorem far_due {rho : Rat} (h0 : 0 ≤ rho) (h1 : rho ≤ 1) (hy : H rho y) (hmin : ∀ p, H rho p → Q l m y ≤ Q l m p) {r p q : Int} (hr : 0 < r) (hq : (r : Rat) * r ≤ Q l m y)
    {k : Rat} (hk : 0 < k) (ep : (p : Rat) = k * gx l m y) (eq : (q : Rat) = k * gy l m y) : FarV l m rho r p q := by
  have rp := cast_pos hr
  have rr := Rat.mul_pos rp rp
  have Qp : 0 < Q l m y := by grind
  refine ⟨?_, fun e he => ?_⟩
  · refine Classical.byContradiction fun hn => ?_
    have z1 : p = 0 := by omega
    have z2 : q = 0 := by omega
    rw [z1, Rat.intCast_zero] at ep
    rw [z2, Rat.intCast_zero] at eq
    have g1 : gx l m y = 0 := by grind
    have g2 : gy l m y = 0 := by grind
    unfold Q at Qp
    rw [g1, g2] at Qp
    grind
  · have t := near_turn hy hmin (edges_H h0 h1 e he).1
    have ge : k * Q l m y ≤ along l m p q e.1 := by
      have := Rat.mul_nonneg (Rat.le_of_lt hk) t
      unfold along
      rw [ep, eq]
      unfold Bq at this
      unfold Q
      grind
    have kq := Rat.mul_pos hk Qp
    refine ⟨by grind, ?_⟩
    have s := sq_le (Rat.le_of_lt kq) ge
    have e2 : size r p q = (r : Rat) * r * (k * k * Q l m y) := by
      rw [size_eq, ep, eq]
      unfold Q
      grind
    have := Rat.mul_nonneg (Rat.mul_nonneg (Rat.le_of_lt kq) (Rat.le_of_lt hk)) (show 0 ≤ Q l m y - (r : Rat) * r by grind)
    rw [e2]
    grind
/-- all places within lie far along, if the corners do -/
theorem far_in {rho : Rat} (h0 : 0 ≤ rho) {r p q : Int} (h : FarV l m rho r p q) {z : Pt} (hz : H rho z) : 0 < along l m p q z ∧ size r p q ≤ along l m p q z * along l m p q z := by
  obtain ⟨_, hc⟩ := h
  have mn : ∃ e ∈ edges rho, ∀ f ∈ edges rho, along l m p q e.1 ≤ along l m p q f.1 := by
    have : ∀ L : List (Pt × Pt), L ≠ [] → ∃ e ∈ L, ∀ f ∈ L, along l m p q e.1 ≤ along l m p q f.1 := by
      intro L
      induction L with
      | nil => intro h; exact absurd rfl h
      | cons a L ih =>
        intro _
        by_cases hL : L = []
        · subst hL
          exact ⟨a, by simp, fun f hf => by rw [List.mem_singleton.mp hf]; exact Rat.le_refl⟩
        · obtain ⟨e, he, h⟩ := ih hL
          by_cases hle : along l m p q a.1 ≤ along l m p q e.1
          · refine ⟨a, by simp, fun f hf => ?_⟩
            rcases List.mem_cons.mp hf with rfl | hf
            · exact Rat.le_refl
            · exact Rat.le_trans hle (h f hf)
          · refine ⟨e, List.mem_cons_of_mem _ he, fun f hf => ?_⟩
            rcases List.mem_cons.mp hf with rfl | hf
            · grind
            · exact h f hf
    exact this _ (by simp [edges])
  obtain ⟨e, he, hm⟩ := mn
  have g := hull_ge (F := along l m p q) (along_mid p q) h0 hm hz
  obtain ⟨p1, p2⟩ := hc e he
  refine ⟨by grind, Rat.le_trans p2 (sq_le (Rat.le_of_lt p1) g)⟩
/-- where two legs come too near there is no such direction -/
theorem not_far {rho : Rat} (h0 : 0 ≤ rho) {r p q : Int} (hy : H rho y) (hq : Q l m y < (r : Rat) * r) : ¬ FarV l m rho r p q := by
  intro h
  obtain ⟨a1, a2⟩ := far_in h0 h hy
  have nz : 0 < (p : Rat) * p + (q : Rat) * q := by
    have s1 := sqr_nonneg (p : Rat)
    have s2 := sqr_nonneg (q : Rat)
    by_cases hz : (p : Rat) * p + (q : Rat) * q = 0
    · have e1 : (p : Rat) = 0 := sqr_zero (by grind)
      have e2 : (q : Rat) = 0 := sqr_zero (by grind)
      unfold along at a1
      rw [e1, e2] at a1
      grind
    · grind
  rw [size_eq] at a2
  have cs : along l m p q y * along l m p q y ≤ ((p : Rat) * p + (q : Rat) * q) * Q l m y := by
    have := sqr_nonneg ((p : Rat) * gy l m y - (q : Rat) * gx l m y)
    unfold along Q
    grind
  have := Rat.mul_pos nz (show 0 < (r : Rat) * r - Q l m y by grind)
  grind
end
end Frac

namespace Frac
variable [Dl.LamT]
open PySem L2 Dl
/-! ### the direction without a common divisor -/
def dirG (a b : Int) : Int := ((Nat.gcd a.natAbs b.natAbs : Nat) : Int)
def dirF (a b : Int) : Int × Int := (a / dirG a b, b / dirG a b)
theorem dirG_pos {a b : Int} (h : a ≠ 0 ∨ b ≠ 0) : 0 < dirG a b := by
  unfold dirG
  have : 0 < Nat.gcd a.natAbs b.natAbs := by
    rcases h with h | h
    · exact Nat.gcd_pos_of_pos_left _ (by omega)
    · exact Nat.gcd_pos_of_pos_right _ (by omega)
  omega
theorem dirG_dvd (a b : Int) : dirG a b ∣ a ∧ dirG a b ∣ b := by
  unfold dirG
  exact ⟨Int.dvd_natAbs.mp (Int.natCast_dvd_natCast.mpr (Nat.gcd_dvd_left _ _)), Int.dvd_natAbs.mp (Int.natCast_dvd_natCast.mpr (Nat.gcd_dvd_right _ _))⟩
theorem dir_zero {a : Int} (h : a ≠ 0) : dirF a 0 = (if a > 0 then 1 else -1, 0) := by
  unfold dirF dirG
  simp only [Int.natAbs_zero, Nat.gcd_zero_right]
  by_cases ha : a > 0
  · rw [if_pos ha, Int.natAbs_of_nonneg (by omega), Int.ediv_self h]
    simp
  · rw [if_neg ha]
    have e : ((a.natAbs : Nat) : Int) = -a := by omega
    rw [e, Int.ediv_neg, Int.ediv_self h]
    simp
theorem dir_low {a b : Int} (hb : b ≠ 0) : dirF a b = if b > 0 then lowF a b else (-(lowF a b).1, -(lowF a b).2) := by
  obtain ⟨d1, d2⟩ := dirG_dvd a b
  unfold lowF lowN lowD
  have e : ((Nat.gcd a.natAbs b.natAbs : Nat) : Int) = dirG a b := rfl
  rw [e]
  unfold dirF
  by_cases h : b > 0
  · rw [if_pos h, if_neg (by omega), if_neg (by omega), Int.one_mul]
  · rw [if_neg h, if_pos (by omega), if_pos (by omega)]
    dsimp only
    rw [show (-1 : Int) * a = -a by omega, Int.neg_ediv_of_dvd d1, Int.neg_ediv_of_dvd d2, Int.neg_neg, Int.neg_neg]
theorem dir_val {u v : Fr} (hu : 0 < u.2) (hv : 0 < v.2) (h : u.1 * v.2 ≠ 0 ∨ v.1 * u.2 ≠ 0) :
    ∃ k : Rat, 0 < k ∧ ((dirF (u.1 * v.2) (v.1 * u.2)).1 : Rat) = k * val u ∧ ((dirF (u.1 * v.2) (v.1 * u.2)).2 : Rat) = k * val v := by
  have gp := dirG_pos h
  obtain ⟨⟨x, d1⟩, y, d2⟩ := dirG_dvd (u.1 * v.2) (v.1 * u.2)
  unfold dirF
  dsimp only
  generalize dirG (u.1 * v.2) (v.1 * u.2) = g at *
  have g0 := Int.ne_of_gt gp
  have e1 : u.1 * v.2 / g = x := by rw [d1, Int.mul_ediv_cancel_left _ g0]
  have e2 : v.1 * u.2 / g = y := by rw [d2, Int.mul_ediv_cancel_left _ g0]
  rw [e1, e2]
  have c1 : (u.1 : Rat) * v.2 = g * x := by rw [← Rat.intCast_mul, ← Rat.intCast_mul, d1]
  have c2 : (v.1 : Rat) * u.2 = g * y := by rw [← Rat.intCast_mul, ← Rat.intCast_mul, d2]
  have up := cast_pos hu
  have vp := cast_pos hv
  have gp2 := cast_pos gp
  refine ⟨(u.2 : Rat) * v.2 / g, ?_, ?_, ?_⟩
  · rw [Rat.div_def]
    exact Rat.mul_pos (Rat.mul_pos up vp) (Rat.inv_pos.mpr gp2)
  · unfold val
    grind
  · unfold val
    grind
theorem dir_lt {a b : Int} {n : Nat} (ha : Lt n a) (hb : Lt n b) : Lt n (dirF a b).1 ∧ Lt n (dirF a b).2 := by
  obtain ⟨⟨x, d1⟩, y, d2⟩ := dirG_dvd a b
  have key : ∀ {c : Int}, Lt n c → Lt n (c / dirG a b) := fun {c} hc => by
    unfold Lt at *
    refine Nat.lt_of_le_of_lt ?_ hc
    exact Int.natAbs_ediv_le_natAbs _ _
  exact ⟨key ha, key hb⟩
theorem low_self {f : Fr} (h : Rd f) : lowF f.1 f.2 = f := by
  obtain ⟨h0, h1⟩ := h
  obtain ⟨a, b⟩ := f
  dsimp only at h0 h1
  unfold lowF lowN lowD
  rw [h1, if_neg (by omega), if_neg (by omega), Int.one_mul]
  simp
end Frac

namespace My
variable [Dl.LamT]
open PySem PySem.Spec L2 Dl
open Frac
/-! ### papers of two legs -/
def partsF (c d : Cor) : Int := if cmpF c.1 d.1 = 0 then cmpF c.2 d.2 else cmpF c.1 d.1
def sp_parts : ASp := fun rs k => (∃ a b : Rw, rs = [.dat (rowD a), .dat (rowD b)] ∧ Row a ∧ Row b ∧ k (.dat (.int (partsT a b)))) ∨ ∃ c d : Cor, rs = [.dat (pD c), .dat (pD d)] ∧ Sc c ∧ Sc d ∧ k (.dat (.int (partsF c d)))
theorem parts_neg {c d : Cor} (hc : RdC c) (hd : RdC d) : decide (partsF c d < 0) = ltC c d := by
  unfold partsF ltC
  by_cases h : c.1 = d.1
  · rw [if_pos ((cmp_zero hc.1 hd.1).mpr h), if_pos h]
    exact Bool.eq_iff_iff.mpr (by rw [decide_eq_true_eq]; exact cmp_neg _ _)
  · rw [if_neg (fun z => h ((cmp_zero hc.1 hd.1).mp z)), if_neg h]
    exact Bool.eq_iff_iff.mpr (by rw [decide_eq_true_eq]; exact cmp_neg _ _)
theorem ring_un {rho : Fr} (h : Un rho) : ∀ c ∈ ringF rho, RdC c ∧ Sc c := by
  intro c hc
  rw [ring_edges] at hc
  obtain ⟨e, he, rfl⟩ := List.mem_map.mp hc
  obtain ⟨⟨a, b⟩, _⟩ := edgesF_un h e he
  exact ⟨b, a⟩
def sp_corners : ASp := fun rs k => ∃ rho : Fr, rs = [.dat (fD rho)] ∧ Un rho ∧ ∀ cs : List Cor, cs.length ≤ 6 → (∀ x, x ∈ cs ↔ x ∈ ringF rho) → k (.dat (.tuple (cs.map pD)))
theorem sort_ring {rho : Fr} (h : Un rho) : ∀ x, x ∈ sortC (ringF rho) ↔ x ∈ ringF rho := fun x => by
  have := (sort_srt (fs := []) ⟨.nil, fun _ h => by cases h⟩ fun c hc => (ring_un h c hc).1).2 x
  unfold sortC
  rw [this]
  simp
theorem ring_edge {rho : Fr} (h : Un rho) (P : Pt → Prop) : (∀ c ∈ ringF rho, P (vC c)) ↔ ∀ e ∈ edges (val rho), P e.1 := by
  rw [ring_edges, ← edgesF_v h]
  simp only [List.mem_map, forall_exists_index, and_imp, forall_apply_eq_imp_iff₂]
theorem lcorn_ring (rho : Fr) : ∀ x, x ∈ lcornF rho ↔ x ∈ ringF rho := fun x => by
  unfold lcornF ringF
  simp only [List.mem_cons, List.not_mem_nil, or_false]
  grind
def nearD (s t : Fr) : PyData := .tuple [.str "near", fD s, fD t]
def awayD (c : Col) : PyData := .tuple [.str "away", cD c]
def PapOk (d : PyData) : Prop := (∃ s t : Fr, d = nearD s t ∧ (Rd s ∧ S 400 s) ∧ (Rd t ∧ S 400 t)) ∨ ∃ c : Col, d = awayD c ∧ Lt 900 c.1 ∧ Lt 900 c.2
def PapV (l m : Leg) (rho : Fr) (r : Int) (d : PyData) : Prop := (∃ s t : Fr, d = nearD s t ∧ Frac.H (val rho) (val s, val t) ∧ Q l m (val s, val t) < (r : Rat) * r) ∨ ∃ c : Col, d = awayD c ∧ FarV l m (val rho) r c.1 c.2
def sp_paper : ASp := fun rs k => ∃ (l m : Leg) (rho : Fr) (r : Int) (d : PyData), rs = [.dat (lD l), .dat (lD m), .dat (fD rho), .dat (.int r), .dat d] ∧ Bl l ∧ Bl m ∧ Un rho ∧ (-10000 < r ∧ r < 10000) ∧ PapOk d ∧ ∀ b : Bool, (b = true ↔ PapV l m rho r d) → k (.dat (.bool b))
def sp_far : ASp := fun rs k => ∃ (l m : Leg) (rho : Fr) (r : Int) (c : Col), rs = [.dat (lD l), .dat (lD m), .dat (fD rho), .dat (.int r), .dat (cD c)] ∧ Bl l ∧ Bl m ∧ Un rho ∧ (-10000 < r ∧ r < 10000) ∧ (Lt 900 c.1 ∧ Lt 900 c.2) ∧ (c.1 ≠ 0 ∨ c.2 ≠ 0) ∧ ∀ b : Bool, (b = true ↔ FarV l m (val rho) r c.1 c.2) → k (.dat (.bool b))
def sp_dirc : ASp := fun rs k => ∃ c : Col, rs = [.dat (cD c)] ∧ k (.dat (.bool (decide (c ≠ (0, 0)))))
def sp_isfrac : ASp := fun rs k => ∃ f : Fr, rs = [.dat (fD f)] ∧ (Rd f ∧ S 400 f) ∧ k (.dat (.bool true))
def sp_from : ASp := fun rs k => ∃ i n : Int, rs = [.dat (.int i), .dat (.int n)] ∧ k (.dat (.bool (decide (n ≤ i))))
def sp_rowof : ASp := fun rs k => ∃ (ds : List PyData) (n : Int), rs = [.dat (.tuple ds), .dat (.int n)] ∧ k (.dat (.bool (decide ((ds.length : Int) = n))))
def sp_ints : ASp := fun rs k => ∃ u v : Fr, rs = [.dat (fD u), .dat (fD v)] ∧ (S 400 u ∧ S 400 v) ∧ (u.1 * v.2 ≠ 0 ∨ v.1 * u.2 ≠ 0) ∧ k (.dat (cD (dirF (u.1 * v.2) (v.1 * u.2))))
theorem dir_lt2 {u v : Fr} (hu : S 400 u) (hv : S 400 v) : Lt 900 (dirF (u.1 * v.2) (v.1 * u.2)).1 ∧ Lt 900 (dirF (u.1 * v.2) (v.1 * u.2)).2 := by
  obtain ⟨a, b⟩ := dir_lt (hu.n.mul hv.d) (hv.n.mul hu.d)
  exact ⟨a.mono (by decide), b.mono (by decide)⟩
/-- what apart_paper tells -/
def dueD (l m : Leg) (q : Rw) (r : Int) : PyData := if ltF q.1 (r * r, 1) = true then nearD q.2.1 q.2.2 else awayD (dirF ((gapF l m q.2.1 q.2.2).1.1 * (gapF l m q.2.1 q.2.2).2.2) ((gapF l m q.2.1 q.2.2).2.1 * (gapF l m q.2.1 q.2.2).1.2))
def sp_ap : ASp := fun rs k => ∃ (l m : Leg) (rho : Fr) (r : Int), rs = [.dat (lD l), .dat (lD m), .dat (fD rho), .dat (.int r)] ∧ Bl l ∧ Bl m ∧ Un rho ∧ (1 ≤ r ∧ r < 10000) ∧ ∀ q : Rw, NearR l m rho q → k (.dat (dueD l m q r))
theorem near_s2 {l m : Leg} {rho : Fr} (hl : Bl l) (hm : Bl m) (hu : Un rho) {a : Rw} (h : NearR l m rho a) : S 330 a.1 ∧ S 140 a.2.1 ∧ S 140 a.2.2 := near_small hl hm ⟨hu.lo, hu.le, hu.pos, hu.hi⟩ h.2.1 h.2.2.2
theorem gap_s {l m : Leg} {rho : Fr} (hl : Bl l) (hm : Bl m) (hu : Un rho) {a : Rw} (h : NearR l m rho a) : S 400 (gapF l m a.2.1 a.2.2).1 ∧ S 400 (gapF l m a.2.1 a.2.2).2 := by
  obtain ⟨_, s2, s3⟩ := near_s2 hl hm hu h
  obtain ⟨h1, h2⟩ := z_gap hl hm s2 s3
  exact ⟨h1.mono (by decide), h2.mono (by decide)⟩
theorem near_min2 {l m : Leg} {rho : Fr} (hu : Un rho) {a : Rw} (h : NearR l m rho a) : Frac.H (val rho) (val a.2.1, val a.2.2) ∧ val a.1 = Q l m (val a.2.1, val a.2.2) ∧ ∀ p, Frac.H (val rho) p → Q l m (val a.2.1, val a.2.2) ≤ Q l m p := by
  obtain ⟨h0, h1⟩ := hu.v
  obtain ⟨⟨y, hy, e⟩, _⟩ := h.2.2.2
  have e1 : val a.1 = Q l m y := congrArg (·.1) e
  have e2 : val a.2.1 = y.1 := congrArg (·.2.1) e
  have e3 : val a.2.2 = y.2 := congrArg (·.2.2) e
  have ey : (val a.2.1, val a.2.2) = y := by rw [e2, e3]
  rw [ey]
  refine ⟨cand_H h0 h1 hy, e1, fun p hp => ?_⟩
  have := near_min h0 h1 h.2.2.2 hp
  rw [← e1]
  exact this
theorem val_rr (r : Int) : val ((r * r, 1) : Fr) = (r : Rat) * r := by rw [val_int, Rat.intCast_mul]
theorem near_lt {l m : Leg} {rho : Fr} (hu : Un rho) {a : Rw} (h : NearR l m rho a) (r : Int) : ltF a.1 (r * r, 1) = true ↔ Q l m (val a.2.1, val a.2.2) < (r : Rat) * r := by
  rw [lt_val h.2.1.1.1 one_pos, decide_eq_true_eq, val_rr, (near_min2 hu h).2.1]
theorem away_nz {l m : Leg} {rho : Fr} (hu : Un rho) {a : Rw} (h : NearR l m rho a) {r : Int} (hr : 1 ≤ r) (hq : ltF a.1 (r * r, 1) = false) :
    (gapF l m a.2.1 a.2.2).1.1 * (gapF l m a.2.1 a.2.2).2.2 ≠ 0 ∨ (gapF l m a.2.1 a.2.2).2.1 * (gapF l m a.2.1 a.2.2).1.2 ≠ 0 := by
  have q : ¬ Q l m (val a.2.1, val a.2.2) < (r : Rat) * r := fun z => by
    rw [(near_lt hu h r).mpr z] at hq
    cases hq
  obtain ⟨p1, p2⟩ := pos_gap l m h.2.1.2.1.1 h.2.1.2.2.1
  obtain ⟨v1, v2⟩ := val_gap l m h.2.1.2.1.1 h.2.1.2.2.1
  refine Classical.byContradiction fun hn => ?_
  have n1 : (gapF l m a.2.1 a.2.2).1.1 * (gapF l m a.2.1 a.2.2).2.2 = 0 := Classical.byContradiction fun z => hn (.inl z)
  have n2 : (gapF l m a.2.1 a.2.2).2.1 * (gapF l m a.2.1 a.2.2).1.2 = 0 := Classical.byContradiction fun z => hn (.inr z)
  have m1 := (Int.mul_eq_zero.mp n1).resolve_right (Int.ne_of_gt p2)
  have m2 := (Int.mul_eq_zero.mp n2).resolve_right (Int.ne_of_gt p1)
  have z1 := (val_zero_iff p1).mpr m1
  have z2 := (val_zero_iff p2).mpr m2
  rw [v1] at z1
  rw [v2] at z2
  refine q ?_
  unfold Q
  rw [z1, z2]
  have := cast_pos (b := r) (by omega)
  have := Rat.mul_pos this this
  grind
/-- how far along, as the program reckons -/
def reachF (l m : Leg) (c : Col) (e : Cor) : Fr := addF (mulF (c.1, 1) (gapF l m e.1 e.2).1) (mulF (c.2, 1) (gapF l m e.1 e.2).2)
theorem reach_v {l m : Leg} {c : Col} {e : Cor} (he : RdC e) : 0 < (reachF l m c e).2 ∧ val (reachF l m c e) = along l m c.1 c.2 (vC e) := by
  obtain ⟨p1, p2⟩ := pos_gap l m he.1.1 he.2.1
  obtain ⟨v1, v2⟩ := val_gap l m he.1.1 he.2.1
  unfold reachF along
  refine ⟨pos_add (pos_mul one_pos p1) (pos_mul one_pos p2), ?_⟩
  rw [val_add (pos_mul one_pos p1) (pos_mul one_pos p2), val_mul one_pos p1, val_mul one_pos p2, v1, v2, val_int, val_int]
  rfl
def OkC (l m : Leg) (r : Int) (c : Col) (z : Pt) : Prop := 0 < along l m c.1 c.2 z ∧ size r c.1 c.2 ≤ along l m c.1 c.2 z * along l m c.1 c.2 z
theorem num_le {f : Fr} (hf : 0 < f.2) : f.1 ≤ 0 ↔ ¬ 0 < val f := by
  have h1 := val_nonneg hf
  have h2 := val_zero_iff hf
  constructor
  · intro h hv
    by_cases hz : f.1 = 0
    · have := h2.mpr hz
      grind
    · have : ¬ 0 ≤ f.1 := by omega
      exact this (h1.mpr (Rat.le_of_lt hv))
  · intro h
    refine Int.not_lt.mp fun hv => h ?_
    have := h1.mp (by omega)
    by_cases hz : val f = 0
    · have := h2.mp hz
      omega
    · grind
theorem okc_of {l m : Leg} {c : Col} {e : Cor} {r : Int} (he : RdC e) : ¬ (reachF l m c e).1 ≤ 0 ∧ ¬ cmpF (mulF (reachF l m c e) (reachF l m c e)) (r * r * (c.1 * c.1 + c.2 * c.2), 1) < 0 ↔ OkC l m r c (vC e) := by
  obtain ⟨p, v⟩ := reach_v (l := l) (m := m) (c := c) he
  rw [num_le p, cmp_neg, lt_val (pos_mul p p) one_pos, decide_eq_true_eq, val_mul p p, v, val_int]
  unfold OkC size
  constructor
  · rintro ⟨a, b⟩
    exact ⟨Classical.not_not.mp a, Rat.not_lt.mp b⟩
  · rintro ⟨a, b⟩
    exact ⟨fun h => h a, fun h => Rat.not_lt.mpr b h⟩
theorem far_corners {l m : Leg} {rho : Fr} (hu : Un rho) {r : Int} {c : Col} (hc : c.1 ≠ 0 ∨ c.2 ≠ 0) {cs : List Cor} (h : ∀ x, x ∈ cs ↔ x ∈ ringF rho) : (∀ e ∈ cs, OkC l m r c (vC e)) ↔ FarV l m (val rho) r c.1 c.2 := by
  have := ring_edge hu (OkC l m r c)
  unfold FarV
  constructor
  · intro g
    exact ⟨hc, this.mp fun e he => g e ((h e).mpr he)⟩
  · rintro ⟨_, g⟩ e he
    exact this.mpr g e ((h e).mp he)
theorem near_inj {s t s' t' : Fr} (h : nearD s t = nearD s' t') : s = s' ∧ t = t' := by
  obtain ⟨s1, s2⟩ := s
  obtain ⟨t1, t2⟩ := t
  obtain ⟨a1, a2⟩ := s'
  obtain ⟨b1, b2⟩ := t'
  unfold nearD fD at h
  simp only [PyData.tuple.injEq, List.cons.injEq, PyData.int.injEq, and_true, true_and] at h
  obtain ⟨⟨rfl, rfl⟩, rfl, rfl⟩ := h
  exact ⟨rfl, rfl⟩
theorem away_inj {c d : Col} (h : awayD c = awayD d) : c = d := by
  obtain ⟨s1, s2⟩ := c
  obtain ⟨t1, t2⟩ := d
  unfold awayD cD at h
  simp only [PyData.tuple.injEq, List.cons.injEq, PyData.int.injEq, and_true, true_and] at h
  obtain ⟨rfl, rfl⟩ := h
  rfl
theorem near_away {s t : Fr} {c : Col} : nearD s t ≠ awayD c := fun h => by
  unfold nearD awayD at h
  simp at h
theorem papv_near {l m : Leg} {rho : Fr} {r : Int} {s t : Fr} : PapV l m rho r (nearD s t) ↔ Frac.H (val rho) (val s, val t) ∧ Q l m (val s, val t) < (r : Rat) * r := by
  constructor
  · rintro (⟨s', t', e, h⟩ | ⟨c, e, _⟩)
    · obtain ⟨rfl, rfl⟩ := near_inj e
      exact h
    · exact absurd e near_away
  · exact fun h => .inl ⟨s, t, rfl, h⟩
theorem papv_away {l m : Leg} {rho : Fr} {r : Int} {c : Col} : PapV l m rho r (awayD c) ↔ FarV l m (val rho) r c.1 c.2 := by
  constructor
  · rintro (⟨s', t', e, h⟩ | ⟨d, e, h⟩)
    · exact absurd e.symm near_away
    · obtain rfl := away_inj e
      exact h
  · exact fun h => .inr ⟨c, rfl, h⟩
/-- the paper that is told is one -/
theorem due_ok {l m : Leg} {rho : Fr} (hl : Bl l) (hm : Bl m) (hu : Un rho) {q : Rw} (h : NearR l m rho q) {r : Int} : PapOk (dueD l m q r) := by
  unfold dueD
  split
  · obtain ⟨_, s2, s3⟩ := near_s2 hl hm hu h
    exact .inl ⟨_, _, rfl, ⟨h.2.1.2.1, s2.mono (by decide)⟩, h.2.1.2.2, s3.mono (by decide)⟩
  · obtain ⟨g1, g2⟩ := gap_s hl hm hu h
    exact .inr ⟨_, rfl, dir_lt2 g1 g2⟩
theorem due_pap {l m : Leg} {rho : Fr} (hu : Un rho) {q : Rw} (h : NearR l m rho q) {r : Int} (hr : 1 ≤ r) : PapV l m rho r (dueD l m q r) := by
  obtain ⟨h0, h1⟩ := hu.v
  obtain ⟨hy, _, hmin⟩ := near_min2 hu h
  unfold dueD
  split
  · next hq => exact papv_near.mpr ⟨hy, (near_lt hu h r).mp hq⟩
  · next hq =>
    have hq : ltF q.1 (r * r, 1) = false := Bool.eq_false_iff.mpr hq
    have nz := away_nz hu h hr hq
    obtain ⟨p1, p2⟩ := pos_gap l m h.2.1.2.1.1 h.2.1.2.2.1
    obtain ⟨v1, v2⟩ := val_gap l m h.2.1.2.1.1 h.2.1.2.2.1
    obtain ⟨k, kp, e1, e2⟩ := dir_val p1 p2 nz
    rw [v1] at e1
    rw [v2] at e2
    refine papv_away.mpr (far_due h0 h1 hy hmin (by omega) ?_ kp e1 e2)
    refine Rat.not_lt.mp fun z => ?_
    rw [(near_lt hu h r).mpr z] at hq
    cases hq
/-- papers of the other sort are none -/
theorem wrong_near {l m : Leg} {rho : Fr} (hu : Un rho) {q : Rw} (h : NearR l m rho q) {r : Int} (hq : ltF q.1 (r * r, 1) = false) (s t : Fr) : ¬ PapV l m rho r (nearD s t) := by
  rw [papv_near]
  rintro ⟨a, b⟩
  have := (near_min2 hu h).2.2 _ a
  have z := (near_lt hu h r).mpr (by grind)
  rw [z] at hq
  cases hq
theorem wrong_away {l m : Leg} {rho : Fr} (hu : Un rho) {q : Rw} (h : NearR l m rho q) {r : Int} (hq : ltF q.1 (r * r, 1) = true) (c : Col) : ¬ PapV l m rho r (awayD c) := by
  rw [papv_away]
  exact not_far hu.v.1 (near_min2 hu h).1 ((near_lt hu h r).mp hq)
theorem any23 (n : Int) : ([PyData.int 2, PyData.int 3].any fun z => PyData.eqv z (.int n)) = (decide ((2 : Int) = n) || decide ((3 : Int) = n)) := by
  simp [eqv_int]
theorem mul_comm2 (f g : Fr) : mulF f g = mulF g f := by
  unfold mulF
  rw [Int.mul_comm f.1, Int.mul_comm f.2]
theorem reach_dot (l m : Leg) (c : Col) (e : Cor) : dotF (gapF l m e.1 e.2) ((c.1, 1), (c.2, 1)) = reachF l m c e := by
  unfold dotF reachF
  rw [mul_comm2 (gapF l m e.1 e.2).1, mul_comm2 (gapF l m e.1 e.2).2]
theorem laid_pap {d : PyData} (h : PapOk d) : PyData.canLay0 d = true ∧ PyData.depth d ≤ 3 := by
  rcases h with ⟨s, t, rfl, _⟩ | ⟨c, rfl, _⟩
  · obtain ⟨h1, h2⟩ := laid_all (n := 1) [.str (Str.ofString "near"), fD s, fD t] fun d hd => by
      simp only [List.mem_cons, List.not_mem_nil, or_false] at hd
      rcases hd with rfl | rfl | rfl
      · simp [PyData.canLay0, PyData.depth]
        decide +kernel
      · exact laid_fD _
      · exact laid_fD _
    unfold nearD
    simp only [PyData.canLay0, PyData.depth, h1, true_and]
    omega
  · obtain ⟨h1, h2⟩ := laid_all (n := 1) [.str (Str.ofString "away"), cD c] fun d hd => by
      simp only [List.mem_cons, List.not_mem_nil, or_false] at hd
      rcases hd with rfl | rfl
      · simp [PyData.canLay0, PyData.depth]
        decide +kernel
      · exact laid_fD _
    unfold awayD
    simp only [PyData.canLay0, PyData.depth, h1, true_and]
    omega
theorem sh_pap {d : PyData} (h : PapOk d) : SeqAt.shaped d = true := by
  obtain ⟨h1, h2⟩ := laid_pap h
  unfold SeqAt.shaped
  rw [h1, Bool.true_and]
  exact decide_eq_true (by omega)
theorem eqv_nearN (s t : Fr) : PyData.eqv (nearD s t) (.tuple []) = false := by
  simp [nearD, PyData.eqv, PyData.eqvAll]
theorem eqv_awayN (c : Col) : PyData.eqv (awayD c) (.tuple []) = false := by
  simp [awayD, PyData.eqv, PyData.eqvAll]
def sp_iscol : ASp := fun rs k => ∃ c : Col, rs = [.dat (cD c)] ∧ k (.dat (.bool true))
def sp_ldir : ASp := fun rs k => ∃ u v : Fr, rs = [.bor [fD u, fD v]] ∧ (S 400 u ∧ S 400 v) ∧ (u.1 * v.2 ≠ 0 ∨ v.1 * u.2 ≠ 0) ∧ k (.dat (cD (dirF (u.1 * v.2) (v.1 * u.2))))
theorem small_near : Small 10 0 (.str (Str.ofString "near")) := ⟨by simp [PyData.showable], by simp only [PyData.canLay0]; decide +kernel, by rw [PyData.shown_str]; decide +kernel, by simp [PyData.depth]⟩
theorem small_away : Small 10 0 (.str (Str.ofString "away")) := ⟨by simp [PyData.showable], by simp only [PyData.canLay0]; decide +kernel, by rw [PyData.shown_str]; decide +kernel, by simp [PyData.depth]⟩
theorem small_z9 {i : Int} (h : Lt 900 i) : Small 272 0 (.int i) := small_int 271 (by decide) (by decide) (Nat.lt_of_lt_of_le h (by decide +kernel))
theorem small_pap {d : PyData} (h : PapOk d) : Small 1200 3 d := by
  rcases h with ⟨s, t, rfl, ⟨_, s2⟩, _, t2⟩ | ⟨c, rfl, h1, h2⟩
  · refine (small_tup (L := 255) (D := 1) 3 (by simp) fun x hx => ?_).mono (by decide) (by decide)
    simp only [List.mem_cons, List.not_mem_nil, or_false] at hx
    rcases hx with rfl | rfl | rfl
    · exact small_near.mono (by decide) (by decide)
    · exact small_fD s2
    · exact small_fD t2
  · refine (small_tup (L := 570) (D := 1) 2 (by simp) fun x hx => ?_).mono (L' := 1200) (by decide) (by decide)
    simp only [List.mem_cons, List.not_mem_nil, or_false] at hx
    rcases hx with rfl | rfl
    · exact small_away.mono (by decide) (by decide)
    · refine (small_tup (L := 272) (D := 0) 2 (by simp) fun x hx => ?_).mono (by decide) (by decide)
      simp only [List.mem_cons, List.not_mem_nil, or_false] at hx
      rcases hx with rfl | rfl
      · exact small_z9 h1
      · exact small_z9 h2
end My

namespace My
variable [Dl.LamT]
open PySem PySem.Spec L2 Dl
open Frac
/-! ## a row: a list lent or a tuple -/
def SeqR (x : Res) (ds : List PyData) : Prop := x.items = some ds ∨ x = .dat (.tuple ds)
theorem seq_slot {x : Res} {ds : List PyData} (hx : x = .bor ds ∨ x = .dat (.tuple ds)) : ∃ y, slotRes (argSlot x) = some y ∧ SeqR y ds ∧ y.still = some ds := by
  rcases hx with rfl | rfl
  · exact ⟨_, rfl, .inl rfl, rfl⟩
  · exact ⟨_, rfl, .inr rfl, rfl⟩
theorem seq_slot3 {x : Res} {ds : List PyData} (hx : x = .bor ds ∨ x = .dat (.tuple ds) ∨ x = .dat (.list ds)) : ∃ y, slotRes (argSlot x) = some y ∧ SeqR y ds ∧ y.still = some ds := by
  rcases hx with rfl | rfl | rfl
  · exact ⟨_, rfl, .inl rfl, rfl⟩
  · exact ⟨_, rfl, .inr rfl, rfl⟩
  · exact ⟨_, rfl, .inl rfl, rfl⟩
theorem len_sr {x : Res} {ds : List PyData} {k : Res → Prop} (h : SeqR x ds) (g : k (.dat (.int (ds.length : Nat)))) : LenP [x] k := by
  rcases h with h | rfl
  · exact .lst h g
  · exact .tup g
theorem ix_sr {x : Res} {ds : List PyData} {i : Int} {d : PyData} {k : Res → Prop} (h : SeqR x ds) (e : atI ds i = some d) (g : k (.dat d)) : IxQ x (.dat (.int i)) k := by
  rcases h with h | rfl
  · exact ixq_lst h e g
  · exact ixq_tup e g
theorem ix_at {α : Type} {f : α → PyData} {xs : List α} {j : Nat} {a : α} (h : xs[j]? = some a) : atI (xs.map f) (j : Int) = some (f a) := atI_nat (by rw [List.getElem?_map, h]; rfl)
theorem ixN_n {n j : Nat} (hj : j < n) : ixN n (j : Int) = some j := by
  unfold ixN
  rw [if_pos (by omega), if_pos (by omega), Int.toNat_natCast]
theorem ixl0 {l : Leg} {k : Res → Prop} (g : k (.dat (cD l.1))) : IxQ (.dat (lD l)) (.dat (.int 0)) k := ixq_tup (atI_nat (j := 0) rfl) g
theorem ixl1 {l : Leg} {k : Res → Prop} (g : k (.dat (cD l.2))) : IxQ (.dat (lD l)) (.dat (.int 1)) k := ixq_tup (atI_nat (j := 1) rfl) g
theorem ixc0 {c : Col} {k : Res → Prop} (g : k (.dat (.int c.1))) : IxQ (.dat (cD c)) (.dat (.int 0)) k := ixq_tup (atI_nat (j := 0) rfl) g
theorem ixc1 {c : Col} {k : Res → Prop} (g : k (.dat (.int c.2))) : IxQ (.dat (cD c)) (.dat (.int 1)) k := ixq_tup (atI_nat (j := 1) rfl) g
/-! ## BOUNDS -/
structure Bd where
  sp : Int
  ne : Int
  wi : Int
  cl : Int
  fa : Int
  wa : Int
  si : Int
  cu : Int
  de : Int
def bD (b : Bd) : PyData := .tuple [.int b.sp, .int b.ne, .int b.wi, .int b.cl, .int b.fa, .int b.wa, .int b.si, .int b.cu, .int b.de]
def Bd.R (b : Bd) : Int := b.ne + 2 * b.wi
def Bd.L (b : Bd) : Int := b.fa + 2 * b.cl
structure BdOk (b : Bd) : Prop where
  sp : 1 ≤ b.sp ∧ b.sp ≤ 100
  ne : 1 ≤ b.ne ∧ b.ne ≤ 100
  wi : 0 ≤ b.wi ∧ b.wi ≤ 17
  cl : 0 ≤ b.cl ∧ b.cl ≤ 5
  fa : 0 ≤ b.fa ∧ b.fa ≤ 20
  wa : b.sp ≤ b.wa ∧ b.wa ≤ 600
  si : 1 ≤ b.si ∧ b.si ≤ 3
  cu : 0 ≤ b.cu ∧ b.cu ≤ 2
  de : 1 ≤ b.de ∧ b.de ≤ 6
def sp_r_of : ASp := fun rs k => ∃ b : Bd, rs = [.dat (bD b)] ∧ k (.dat (.int b.R))
def sp_lag_of : ASp := fun rs k => ∃ b : Bd, rs = [.dat (bD b)] ∧ k (.dat (.int b.L))
def sp_rho_of : ASp := fun rs k => ∃ (b : Bd) (t : Int), rs = [.dat (bD b), .dat (.int t)] ∧ t ≠ 0 ∧ Lt 8000 b.L ∧ Lt 8000 t ∧ k (.dat (fD (lowF b.L t)))
def sp_bounds : ASp := fun rs k => rs = [.bag] ∧ ∀ b : Bd, BdOk b → k (.dat (bD b))
def sp_ticks : ASp := fun rs k => ∃ b : Bd, rs = [.bag, .dat (bD b)] ∧ (0 ≤ b.cl ∧ b.cl ≤ 5) ∧ (0 ≤ b.fa ∧ b.fa ≤ 20) ∧ ∀ t : Int, 1 ≤ t → b.L ≤ t → t ≤ 400 → k (.dat (.int t))
theorem bix {b : Bd} {j : Nat} {i : Int} {k : Res → Prop} (h : ([.int b.sp, .int b.ne, .int b.wi, .int b.cl, .int b.fa, .int b.wa, .int b.si, .int b.cu, .int b.de] : List PyData)[j]? = some (.int i)) (g : k (.dat (.int i))) : IxQ (.dat (bD b)) (.dat (.int ((j : Nat) : Int))) k := ixq_tup (atI_nat (j := j) h) g
theorem bix0 {b : Bd} {k : Res → Prop} (g : k (.dat (.int b.sp))) : IxQ (.dat (bD b)) (.dat (.int 0)) k := bix (j := 0) rfl g
theorem bix1 {b : Bd} {k : Res → Prop} (g : k (.dat (.int b.ne))) : IxQ (.dat (bD b)) (.dat (.int 1)) k := bix (j := 1) rfl g
theorem bix2 {b : Bd} {k : Res → Prop} (g : k (.dat (.int b.wi))) : IxQ (.dat (bD b)) (.dat (.int 2)) k := bix (j := 2) rfl g
theorem bix3 {b : Bd} {k : Res → Prop} (g : k (.dat (.int b.cl))) : IxQ (.dat (bD b)) (.dat (.int 3)) k := bix (j := 3) rfl g
theorem bix4 {b : Bd} {k : Res → Prop} (g : k (.dat (.int b.fa))) : IxQ (.dat (bD b)) (.dat (.int 4)) k := bix (j := 4) rfl g
theorem bix5 {b : Bd} {k : Res → Prop} (g : k (.dat (.int b.wa))) : IxQ (.dat (bD b)) (.dat (.int 5)) k := bix (j := 5) rfl g
theorem lt_small {a : Nat} {i : Int} (h1 : -1048576 < i) (h2 : i < 1048576) (ha : 20 ≤ a) : Lt a i := (lt_of (a := 20) (Nat.lt_of_lt_of_le (show i.natAbs < 1048576 by omega) (by decide))).mono ha
theorem BdOk.lt {b : Bd} (h : BdOk b) : Lt 8000 b.L := lt_small (by have := h.cl; have := h.fa; unfold Bd.L; omega) (by have := h.cl; have := h.fa; unfold Bd.L; omega) (by decide)
theorem BdOk.l0 {b : Bd} (h : BdOk b) : 0 ≤ b.L ∧ b.L ≤ 30 := by have := h.cl; have := h.fa; unfold Bd.L; omega
theorem BdOk.r0 {b : Bd} (h : BdOk b) : 1 ≤ b.R ∧ b.R ≤ 134 := by have := h.ne; have := h.wi; unfold Bd.R; omega
/-! ## columns -/
def sqD (c d : Col) : Int := (c.1 - d.1) * (c.1 - d.1) + (c.2 - d.2) * (c.2 - d.2)
theorem sqD_comm (c d : Col) : sqD c d = sqD d c := by unfold sqD; grind
def sp_squared : ASp := fun rs k => ∃ c d : Col, rs = [.dat (cD c), .dat (cD d)] ∧ Bc c ∧ Bc d ∧ k (.dat (.int (sqD c d)))
def Spaced (s : Int) (cs : List Col) : Prop := cs.Pairwise fun c d => s * s ≤ sqD c d
def sp_ldw : ASp := fun rs k => ∃ s : Int, rs = [.dat (.int s)] ∧ (1 ≤ s ∧ s ≤ 100) ∧ ∀ r : Int, 0 ≤ r → r ≤ 202 → k (.dat (.int r))
def sp_offw : ASp := fun rs k => ∃ s : Int, rs = [.dat (.int s)] ∧ (1 ≤ s ∧ s ≤ 100) ∧ ∀ cs : List Col, 0 < cs.length → cs.length ≤ 40 → (∀ c ∈ cs, Nr 300 c) → k (.fresh (cs.map cD))
def sp_spaced : ASp := fun rs k => ∃ s n : Int, rs = [.bag, .dat (.int s), .dat (.int n)] ∧ (1 ≤ s ∧ s ≤ 100) ∧ (1 ≤ n ∧ n ≤ 20) ∧ ∀ cs : List Col, 0 < cs.length → (cs.length : Int) ≤ n → (∀ c ∈ cs, Nr 6200 c) → Spaced s cs → k (.fresh (cs.map cD))
def crossI (l m : Leg) : Int := (m.1.1 - l.1.1) * (m.2.1 - l.2.1) + (m.1.2 - l.1.2) * (m.2.2 - l.2.2)
def sp_do_cross : ASp := fun rs k => ∃ l m : Leg, rs = [.dat (lD l), .dat (lD m)] ∧ Bl l ∧ Bl m ∧ k (.dat (.bool (decide (crossI l m < 0))))
/-- the least couple that crosses -/
def FirstX (ls : List Leg) : Option (Nat × Nat) → Prop
  | none => ∀ (i j : Nat) (l m : Leg), i < j → ls[i]? = some l → ls[j]? = some m → ¬ crossI l m < 0
  | some (i, j) => (i < j ∧ ∃ l m, ls[i]? = some l ∧ ls[j]? = some m ∧ crossI l m < 0) ∧ ∀ (i' j' : Nat) (l m : Leg), i' < j' → ls[i']? = some l → ls[j']? = some m → (i' < i ∨ (i' = i ∧ j' < j)) → ¬ crossI l m < 0
def pxD : Option (Nat × Nat) → PyData
  | none => .none
  | some (i, j) => .tuple [.int (i : Nat), .int (j : Nat)]
def sp_first : ASp := fun rs k => ∃ (x : Res) (ls : List Leg), rs = [x] ∧ (x = .bor (ls.map lD) ∨ x = .dat (.tuple (ls.map lD))) ∧ ls.length ≤ 100 ∧ (∀ l ∈ ls, Bl l) ∧ ∀ o, FirstX ls o → k (.dat (pxD o))
/-- crossless -/
def CrossL (ls : List Leg) : Prop := ls.Pairwise fun l m => 0 ≤ crossI l m
theorem firstX_none {ls : List Leg} (h : ∀ (i j : Nat) (l m : Leg), i < ls.length → i < j → ls[i]? = some l → ls[j]? = some m → ¬ crossI l m < 0) : FirstX ls none := fun i j l m hij hl hm => h i j l m (List.getElem?_eq_some_iff.mp hl).1 hij hl hm
theorem crossL_of {ls : List Leg} (h : FirstX ls none) : CrossL ls := by
  refine List.pairwise_iff_getElem.mpr fun i j hi hj hij => ?_
  exact Int.not_lt.mp (h i j _ _ hij (List.getElem?_eq_getElem hi) (List.getElem?_eq_getElem hj))
def sp_uncrossed : ASp := fun rs k => ∃ ls : List Leg, rs = [.dat (.tuple (ls.map lD))] ∧ ls.length ≤ 20 ∧ (∀ l ∈ ls, Bl l) ∧ ∀ ms : List Leg, ms.map (·.1) = ls.map (·.1) → (ms.map (·.2)).Perm (ls.map (·.2)) → (ls.length ≤ 5 → CrossL ms) → k (.dat (.tuple (ms.map lD)))
def sp_mixed : ASp := fun rs k => ∃ (x : Res) (ds : List PyData), rs = [.bag, x] ∧ (x = .bor ds ∨ x = .dat (.tuple ds) ∨ x = .dat (.list ds)) ∧ ds.length ≤ 100 ∧ ∀ es : List PyData, es.Perm ds → k (.fresh es)
structure LegsOk (s : Int) (n : Int) (ls : List Leg) : Prop where
  len0 : 0 < ls.length
  len : (ls.length : Int) ≤ n
  rng : ∀ l ∈ ls, Nr 7000 l.1 ∧ Nr 7000 l.2
  froms : Spaced s (ls.map (·.1))
  tos : Spaced s (ls.map (·.2))
  cross : n ≤ 5 → CrossL ls
def sp_legs : ASp := fun rs k => ∃ s n : Int, rs = [.bag, .dat (.int s), .dat (.int n)] ∧ (1 ≤ s ∧ s ≤ 100) ∧ (1 ≤ n ∧ n ≤ 20) ∧ ∀ ls : List Leg, LegsOk s n ls → k (.dat (.tuple (ls.map lD)))
theorem Nr.bc {n : Int} {c : Col} (h : Nr n c) (hn : n ≤ 1000000) : Bc c := by
  obtain ⟨⟨h1, h2⟩, h3, h4⟩ := h
  exact ⟨⟨by omega, by omega⟩, by omega, by omega⟩
theorem Nr.mono {n m : Int} {c : Col} (h : Nr n c) (hn : n ≤ m) : Nr m c := by
  obtain ⟨⟨h1, h2⟩, h3, h4⟩ := h
  exact ⟨⟨by omega, by omega⟩, by omega, by omega⟩
theorem Nr.add {n m : Int} {c d : Col} (h : Nr n c) (g : Nr m d) : Nr (n + m) (c.1 + d.1, c.2 + d.2) := by
  obtain ⟨⟨h1, h2⟩, h3, h4⟩ := h
  obtain ⟨⟨g1, g2⟩, g3, g4⟩ := g
  exact ⟨⟨by dsimp only; omega, by dsimp only; omega⟩, by dsimp only; omega, by dsimp only; omega⟩
theorem LegsOk.bl {s n : Int} {ls : List Leg} (h : LegsOk s n ls) : ∀ l ∈ ls, Bl l := fun l hl => ⟨(h.rng l hl).1.bc (by decide), (h.rng l hl).2.bc (by decide)⟩
theorem spaced_perm {s : Int} {cs ds : List Col} (h : cs.Perm ds) (g : Spaced s cs) : Spaced s ds := (h.pairwise_iff fun {c d} q => by rw [sqD_comm]; exact q).mp g
theorem spaced_take {s : Int} {cs : List Col} (n : Nat) (g : Spaced s cs) : Spaced s (cs.take n) := g.sublist (List.take_sublist n cs)
theorem spaced_shift {s : Int} {cs : List Col} (x y : Int) (g : Spaced s cs) : Spaced s (cs.map fun c => (c.1 + x, c.2 + y)) := by
  unfold Spaced
  rw [List.pairwise_map]
  refine g.imp fun {c d} h => ?_
  unfold sqD at *
  dsimp only
  rw [show c.1 + x - (d.1 + x) = c.1 - d.1 by omega, show c.2 + y - (d.2 + y) = c.2 - d.2 by omega]
  exact h
/-! ### the number of orders -/
def insAll {α : Type} (x : α) : List α → List (List α)
  | [] => [[x]]
  | y :: ys => (x :: y :: ys) :: (insAll x ys).map (y :: ·)
def orders {α : Type} : List α → List (List α)
  | [] => [[]]
  | x :: xs => (orders xs).flatMap (insAll x)
theorem insAll_len {α : Type} (x : α) : ∀ ys : List α, (insAll x ys).length = ys.length + 1
  | [] => rfl
  | y :: ys => by simp [insAll, insAll_len x ys]
theorem mem_insAll {α : Type} (x : α) : ∀ (a b : List α), a ++ x :: b ∈ insAll x (a ++ b)
  | [], [] => by simp [insAll]
  | [], y :: b => by simp [insAll]
  | y :: a, b => by
    simp only [List.cons_append, insAll, List.mem_cons, List.mem_map]
    exact .inr ⟨_, mem_insAll x a b, rfl⟩
theorem mem_orders {α : Type} : ∀ (xs ys : List α), ys.Perm xs → ys ∈ orders xs
  | [], ys, h => by simp [orders, h.eq_nil]
  | x :: xs, ys, h => by
    have hx : x ∈ ys := h.mem_iff.mpr (by simp)
    obtain ⟨a, b, rfl⟩ := List.append_of_mem hx
    have h2 : (a ++ b).Perm xs := by
      have := (List.perm_middle (a := x) (l₁ := a) (l₂ := b)).symm.trans h
      exact this.cons_inv
    simp only [orders, List.mem_flatMap]
    exact ⟨a ++ b, mem_orders xs _ h2, mem_insAll x a b⟩
theorem orders_mem_len {α : Type} : ∀ (xs : List α), ∀ ys ∈ orders xs, ys.length = xs.length
  | [], ys, h => by simp [orders] at h; simp [h]
  | x :: xs, ys, h => by
    simp only [orders, List.mem_flatMap] at h
    obtain ⟨zs, hz, hy⟩ := h
    have hl := orders_mem_len xs zs hz
    have : ∀ (zs ys : List α), ys ∈ insAll x zs → ys.length = zs.length + 1 := by
      intro zs
      induction zs with
      | nil => intro ys hy; simp [insAll] at hy; simp [hy]
      | cons z zs ih =>
        intro ys hy
        simp only [insAll, List.mem_cons, List.mem_map] at hy
        rcases hy with rfl | ⟨w, hw, rfl⟩
        · simp
        · simp [ih w hw]
    rw [this zs ys hy, hl]
    rfl
theorem flat_len {α β : Type} (f : α → List β) (n : Nat) : ∀ l : List α, (∀ x ∈ l, (f x).length = n) → (l.flatMap f).length = l.length * n
  | [], _ => by simp
  | x :: l, h => by
    rw [List.flatMap_cons, List.length_append, h x (by simp), flat_len f n l fun y hy => h y (List.mem_cons_of_mem _ hy), List.length_cons, Nat.add_mul]
    omega
def fact : Nat → Nat
  | 0 => 1
  | n + 1 => fact n * (n + 1)
theorem orders_len {α : Type} : ∀ xs : List α, (orders xs).length = fact xs.length
  | [] => rfl
  | x :: xs => by
    unfold orders
    rw [flat_len (insAll x) (xs.length + 1) _ (fun ys hy => by rw [insAll_len, orders_mem_len xs ys hy]), orders_len xs]
    rfl
theorem nodup_le {α : Type} [DecidableEq α] : ∀ (l m : List α), l.Nodup → (∀ x ∈ l, x ∈ m) → l.length ≤ m.length
  | [], _, _, _ => by simp
  | x :: l, m, h, hm => by
    obtain ⟨h1, h2⟩ := List.nodup_cons.mp h
    have hx : x ∈ m := hm x (by simp)
    have := nodup_le l (m.erase x) h2 fun y hy => (List.mem_erase_of_ne fun e => h1 (by rw [← e]; exact hy)).mpr (hm y (List.mem_cons_of_mem _ hy))
    rw [List.length_erase_of_mem hx] at this
    have : 0 < m.length := List.length_pos_of_mem hx
    rw [List.length_cons]
    omega
/-- a row of unlike orders of at most five things -/
theorem orders_few {α : Type} [DecidableEq α] (xs : List α) (hs : List (List α)) (h5 : xs.length ≤ 5) (hn : hs.Nodup) (hp : ∀ h ∈ hs, h.Perm xs) : hs.length ≤ 120 := by
  have h1 := nodup_le hs (orders xs) hn fun h hh => mem_orders xs h (hp h hh)
  rw [orders_len] at h1
  refine Nat.le_trans h1 ?_
  have : ∀ n, n ≤ 5 → fact n ≤ 120 := by decide
  exact this _ h5
/-! ### prices -/
def dotS (ls : List Leg) : Int := (ls.map fun l => l.1.1 * l.2.1 + l.1.2 * l.2.2).sum
/-- the tos i and j exchanged -/
def exch (ls : List Leg) (i j : Nat) (l m : Leg) : List Leg := (ls.set i (l.1, m.2)).set j (m.1, l.2)
theorem sum_set : ∀ (xs : List Int) (i : Nat) (a b : Int), xs[i]? = some a → (xs.set i b).sum = xs.sum - a + b
  | [], _, _, _, h => by simp at h
  | x :: xs, 0, a, b, h => by
    simp at h
    subst h
    simp
    omega
  | x :: xs, i + 1, a, b, h => by
    have := sum_set xs i a b (by simpa using h)
    simp only [List.set_cons_succ, List.sum_cons]
    omega
theorem exch_dot {ls : List Leg} {i j : Nat} {l m : Leg} (hij : i < j) (hl : ls[i]? = some l) (hm : ls[j]? = some m) : dotS (exch ls i j l m) = dotS ls - crossI l m := by
  unfold dotS exch
  rw [List.map_set, List.map_set]
  have e1 : (ls.map fun l : Leg => l.1.1 * l.2.1 + l.1.2 * l.2.2)[i]? = some (l.1.1 * l.2.1 + l.1.2 * l.2.2) := by rw [List.getElem?_map, hl]; rfl
  have e2 : ((ls.map fun l : Leg => l.1.1 * l.2.1 + l.1.2 * l.2.2).set i (l.1.1 * m.2.1 + l.1.2 * m.2.2))[j]? = some (m.1.1 * m.2.1 + m.1.2 * m.2.2) := by
    rw [List.getElem?_set_ne (by omega), List.getElem?_map, hm]
    rfl
  rw [sum_set _ j _ _ e2, sum_set _ i _ _ e1]
  unfold crossI
  grind
theorem exch_from {ls : List Leg} {i j : Nat} {l m : Leg} (hl : ls[i]? = some l) (hm : ls[j]? = some m) : (exch ls i j l m).map (·.1) = ls.map (·.1) := by
  unfold exch
  rw [List.map_set, List.map_set]
  refine List.ext_getElem? fun a => ?_
  rw [List.getElem?_set, List.getElem?_set]
  simp only [List.length_set, List.length_map, List.getElem?_map]
  split
  · rename_i h
    subst h
    rw [hm]
    split
    · rfl
    · rename_i h2
      have := (List.getElem?_eq_some_iff.mp hm).1
      exact absurd this h2
  · split
    · rename_i h
      subst h
      rw [hl]
      split
      · rfl
      · rename_i h2
        have := (List.getElem?_eq_some_iff.mp hl).1
        exact absurd this h2
    · rfl
theorem set_swap_perm {α : Type} : ∀ (xs : List α) (i j : Nat) (a b : α), i < j → xs[i]? = some a → xs[j]? = some b → ((xs.set i b).set j a).Perm xs
  | [], _, _, _, _, _, h, _ => by simp at h
  | x :: xs, i, 0, _, _, hij, _, _ => by omega
  | x :: xs, 0, j + 1, a, b, _, ha, hb => by
    simp at ha
    subst ha
    have hb : xs[j]? = some b := by simpa using hb
    obtain ⟨hj, e⟩ := List.getElem?_eq_some_iff.mp hb
    simp only [List.set_cons_zero, List.set_cons_succ]
    have e1 : xs = xs.take j ++ b :: xs.drop (j + 1) := by rw [← e, ← List.drop_eq_getElem_cons hj, List.take_append_drop]
    have e2 : xs.set j x = xs.take j ++ x :: xs.drop (j + 1) := List.set_eq_take_append_cons_drop .. |>.trans (by rw [if_pos hj])
    rw [e2]
    conv => rhs; rw [e1]
    refine (List.Perm.cons b List.perm_middle).trans ?_
    refine (List.Perm.swap x b _).trans ?_
    exact List.Perm.cons x List.perm_middle.symm
  | x :: xs, i + 1, j + 1, a, b, hij, ha, hb => by
    simp only [List.set_cons_succ]
    exact List.Perm.cons x (set_swap_perm xs i j a b (by omega) (by simpa using ha) (by simpa using hb))
theorem exch_tos {ls : List Leg} {i j : Nat} {l m : Leg} (hij : i < j) (hl : ls[i]? = some l) (hm : ls[j]? = some m) : ((exch ls i j l m).map (·.2)).Perm (ls.map (·.2)) := by
  unfold exch
  rw [List.map_set, List.map_set]
  exact set_swap_perm _ i j l.2 m.2 hij (by rw [List.getElem?_map, hl]; rfl) (by rw [List.getElem?_map, hm]; rfl)
/-- legs told by their froms and tos -/
theorem legs_eq : ∀ (ls ms : List Leg), ls.map (·.1) = ms.map (·.1) → ls.map (·.2) = ms.map (·.2) → ls = ms
  | [], [], _, _ => rfl
  | [], _ :: _, h, _ => by simp at h
  | _ :: _, [], h, _ => by simp at h
  | l :: ls, m :: ms, h, g => by
    simp only [List.map_cons, List.cons.injEq] at h g
    rw [legs_eq ls ms h.2 g.2, Prod.ext h.1 g.1]
/-- what stands behind t exchanges -/
def UncI (ls : List Leg) (t : Nat) (ms : List Leg) (o : Option (Nat × Nat)) : Prop :=
  ms.map (·.1) = ls.map (·.1) ∧ (ms.map (·.2)).Perm (ls.map (·.2)) ∧ FirstX ms o ∧
  (o = none ∨ ∃ hs : List (List Leg), hs.length = t ∧ (hs.map (·.map (·.2))).Nodup ∧ ∀ h ∈ hs, h.map (·.1) = ls.map (·.1) ∧ (h.map (·.2)).Perm (ls.map (·.2)) ∧ dotS h < dotS ms)
theorem unc_step {ls ms : List Leg} {t i j : Nat} {l m : Leg} {o : Option (Nat × Nat)} (h : UncI ls t ms (some (i, j))) (hl : ms[i]? = some l) (hm : ms[j]? = some m) (ho : FirstX (exch ms i j l m) o) : UncI ls (t + 1) (exch ms i j l m) o := by
  obtain ⟨h1, h2, ⟨⟨hij, l', m', hl', hm', hx⟩, _⟩, h4⟩ := h
  rw [hl] at hl'
  rw [hm] at hm'
  cases hl'
  cases hm'
  have hd := exch_dot hij hl hm
  refine ⟨(exch_from hl hm).trans h1, (exch_tos hij hl hm).trans h2, ho, .inr ?_⟩
  rcases h4 with h4 | ⟨hs, a, b, c⟩
  · cases h4
  · refine ⟨ms :: hs, by simp [a], ?_, ?_⟩
    · rw [List.map_cons, List.nodup_cons]
      refine ⟨fun hz => ?_, b⟩
      obtain ⟨z, hz, e⟩ := List.mem_map.mp hz
      obtain ⟨c1, c2, c3⟩ := c z hz
      rw [legs_eq z ms (c1.trans h1.symm) e] at c3
      omega
    · intro z hz
      rcases List.mem_cons.mp hz with rfl | hz
      · exact ⟨h1, h2, by omega⟩
      · obtain ⟨c1, c2, c3⟩ := c z hz
        exact ⟨c1, c2, by omega⟩
theorem unc_end {ls ms : List Leg} {t : Nat} {o : Option (Nat × Nat)} (h : UncI ls t ms o) (ht : 121 ≤ t) (h5 : ls.length ≤ 5) : CrossL ms := by
  obtain ⟨_, _, h3, h4 | ⟨hs, a, b, c⟩⟩ := h
  · subst h4
    exact crossL_of h3
  · have := orders_few (ls.map (·.2)) (hs.map (·.map (·.2))) (by simpa using h5) b fun x hx => by
      obtain ⟨z, hz, rfl⟩ := List.mem_map.mp hx
      exact (c z hz).2.1
    rw [List.length_map] at this
    omega
theorem legsOk_of {s n : Int} {cs ds fs : List Col} {ms : List Leg} {r : Nat} (r0 : 0 < r) (rn : (r : Int) ≤ n) (rc : r ≤ cs.length) (rd : r ≤ ds.length) (hc : ∀ c ∈ cs, Nr 6200 c) (hd : ∀ c ∈ ds, Nr 6600 c)
    (sc : Spaced s cs) (sd : Spaced s ds) (hf : fs.Perm (ds.take r)) (h1 : ms.map (·.1) = ((cs.take r).zip fs).map (·.1)) (h2 : (ms.map (·.2)).Perm (((cs.take r).zip fs).map (·.2))) (hx : ((cs.take r).zip fs).length ≤ 5 → CrossL ms) : LegsOk s n ms := by
  have lf : fs.length = r := by
    have := hf.length_eq
    rw [List.length_take] at this
    omega
  have lc : (cs.take r).length = r := by rw [List.length_take]; omega
  have e1 : ((cs.take r).zip fs).map (·.1) = cs.take r := List.map_fst_zip (by omega)
  have e2 : ((cs.take r).zip fs).map (·.2) = fs := List.map_snd_zip (by omega)
  rw [e1] at h1
  rw [e2] at h2
  have lm : ms.length = r := by
    have := congrArg List.length h1
    rw [List.length_map] at this
    omega
  have p2 := h2.trans hf
  refine ⟨by omega, by omega, fun l hl => ⟨?_, ?_⟩, ?_, ?_, fun h5 => hx ?_⟩
  · have : l.1 ∈ ms.map (·.1) := List.mem_map_of_mem (f := (·.1)) hl
    rw [h1] at this
    exact (hc _ (List.mem_of_mem_take this)).mono (by decide)
  · have : l.2 ∈ ms.map (·.2) := List.mem_map_of_mem (f := (·.2)) hl
    exact (hd _ (List.mem_of_mem_take (p2.mem_iff.mp this))).mono (by decide)
  · rw [h1]
    exact spaced_take r sc
  · exact spaced_perm p2.symm (spaced_take r sd)
  · rw [List.length_zip]
    omega
def sp_flight : ASp := fun rs k => ∃ s : Int, rs = [.bag, .dat (.int s)] ∧ (1 ≤ s ∧ s ≤ 100) ∧ ∀ ls : List Leg, ls.length ≤ 6 → (∀ l ∈ ls, Nr 7000 l.1 ∧ Nr 7000 l.2) → k (.dat (.tuple (ls.map lD)))
/-! ## the nearest of a flight -/
abbrev Nf := Rw × Nat × Nat
def nfD : Option Nf → PyData
  | none => .none
  | some (q, i, j) => .tuple [fD q.1, .int (i : Nat), .int (j : Nat), fD q.2.1, fD q.2.2]
def lexN (i j i' j' : Nat) : Prop := i < i' ∨ (i = i' ∧ j < j')
/-- the least over the couples S -/
def NSet (ls : List Leg) (rho : Fr) (S : Nat → Nat → Prop) : Option Nf → Prop
  | none => ∀ i j, i < j → j < ls.length → ¬ S i j
  | some (q, i, j) => (S i j ∧ i < j ∧ ∃ l m, ls[i]? = some l ∧ ls[j]? = some m ∧ NearR l m rho q) ∧
    ∀ i' j' l m q', i' < j' → ls[i']? = some l → ls[j']? = some m → S i' j' → NearR l m rho q' → val q.1 < val q'.1 ∨ (q.1 = q'.1 ∧ ¬ lexN i' j' i j)
abbrev NearOf (ls : List Leg) (rho : Fr) (o : Option Nf) : Prop := NSet ls rho (fun _ _ => True) o
theorem nset_imp {ls : List Leg} {rho : Fr} {S S' : Nat → Nat → Prop} {o : Option Nf} (h : NSet ls rho S o) (hs : ∀ i j, i < j → j < ls.length → (S i j ↔ S' i j)) : NSet ls rho S' o := by
  cases o with
  | none => exact fun i j hij hj z => h i j hij hj ((hs i j hij hj).mpr z)
  | some p =>
    obtain ⟨q, i, j⟩ := p
    obtain ⟨⟨h1, h2, l, m, h3, h4, h5⟩, h6⟩ := h
    exact ⟨⟨(hs i j h2 (List.getElem?_eq_some_iff.mp h4).1).mp h1, h2, l, m, h3, h4, h5⟩, fun i' j' l m q' a b c d e => h6 i' j' l m q' a b c ((hs i' j' a (List.getElem?_eq_some_iff.mp c).1).mpr d) e⟩
/-- whether q at (i, j) takes the place of what was found -/
def Better (q : Rw) (i j : Nat) : Option Nf → Prop
  | none => True
  | some (q0, i0, j0) => val q.1 < val q0.1 ∨ (q.1 = q0.1 ∧ lexN i j i0 j0)
theorem nset_new {ls : List Leg} {rho : Fr} {S : Nat → Nat → Prop} {o : Option Nf} {q : Rw} {i j : Nat} {l m : Leg} (h : NSet ls rho S o) (hij : i < j) (hl : ls[i]? = some l) (hm : ls[j]? = some m) (hq : NearR l m rho q) (hb : Better q i j o) :
    NSet ls rho (fun a b => S a b ∨ (a = i ∧ b = j)) (some (q, i, j)) := by
  refine ⟨⟨.inr ⟨rfl, rfl⟩, hij, l, m, hl, hm, hq⟩, fun i' j' l' m' q' hij' hl' hm' hs hq' => ?_⟩
  rcases hs with hs | ⟨rfl, rfl⟩
  · cases o with
    | none => exact absurd hs (h i' j' hij' (List.getElem?_eq_some_iff.mp hm').1)
    | some p =>
      obtain ⟨q0, i0, j0⟩ := p
      have hb : val q.1 < val q0.1 ∨ (q.1 = q0.1 ∧ lexN i j i0 j0) := hb
      rcases h.2 i' j' l' m' q' hij' hl' hm' hs hq' with g | ⟨g1, g2⟩
      · rcases hb with hb | ⟨hb, _⟩
        · exact .inl (by grind)
        · exact .inl (by rw [hb]; exact g)
      · rcases hb with hb | ⟨hb, hx⟩
        · exact .inl (by rw [← g1]; exact hb)
        · refine .inr ⟨hb.trans g1, fun z => g2 ?_⟩
          unfold lexN at *
          omega
  · rw [hl] at hl'
    rw [hm] at hm'
    cases hl'
    cases hm'
    rw [near_uniq hq' hq]
    exact .inr ⟨rfl, by unfold lexN; omega⟩
theorem nset_old {ls : List Leg} {rho : Fr} {S : Nat → Nat → Prop} {o : Option Nf} {q : Rw} {i j : Nat} {l m : Leg} (h : NSet ls rho S o) (hij : i < j) (hl : ls[i]? = some l) (hm : ls[j]? = some m) (hq : NearR l m rho q) (hb : ¬ Better q i j o) :
    NSet ls rho (fun a b => S a b ∨ (a = i ∧ b = j)) o := by
  cases o with
  | none => exact absurd trivial hb
  | some p =>
    obtain ⟨q0, i0, j0⟩ := p
    have hb : ¬ (val q.1 < val q0.1 ∨ (q.1 = q0.1 ∧ lexN i j i0 j0)) := hb
    obtain ⟨⟨h1, h2, l0, m0, h3, h4, h5⟩, h6⟩ := h
    refine ⟨⟨.inl h1, h2, l0, m0, h3, h4, h5⟩, fun i' j' l' m' q' hij' hl' hm' hs hq' => ?_⟩
    rcases hs with hs | ⟨rfl, rfl⟩
    · exact h6 i' j' l' m' q' hij' hl' hm' hs hq'
    · rw [hl] at hl'
      rw [hm] at hm'
      cases hl'
      cases hm'
      rw [near_uniq hq' hq]
      by_cases e : q.1 = q0.1
      · exact .inr ⟨e.symm, fun z => hb (.inr ⟨e, z⟩)⟩
      · have hv : val q.1 ≠ val q0.1 := fun z => e (val_inj hq.2.1.1 h5.2.1.1 z)
        have hn : ¬ val q.1 < val q0.1 := fun z => hb (.inl z)
        exact .inl (by grind)
theorem nearOf_one {ls : List Leg} {rho : Fr} {o o' : Option Nf} (h : NearOf ls rho o) (g : NearOf ls rho o') : o = o' := by
  have key : ∀ {p : Nf}, NearOf ls rho none → NearOf ls rho (some p) → False := fun {p} a b => by
    obtain ⟨q, i, j⟩ := p
    obtain ⟨⟨_, h2, l, m, h3, h4, _⟩, _⟩ := b
    exact a i j h2 (List.getElem?_eq_some_iff.mp h4).1 trivial
  match o, o', h, g with
  | none, none, _, _ => rfl
  | none, some _, h, g => exact (key h g).elim
  | some _, none, h, g => exact (key g h).elim
  | some (q, i, j), some (q', i', j'), h, g =>
    obtain ⟨⟨_, h2, l, m, h3, h4, h5⟩, h6⟩ := h
    obtain ⟨⟨_, g2, l', m', g3, g4, g5⟩, g6⟩ := g
    have a := h6 i' j' l' m' q' g2 g3 g4 trivial g5
    have b := g6 i j l m q h2 h3 h4 trivial h5
    have e : ¬ lexN i' j' i j ∧ ¬ lexN i j i' j' := by
      rcases a with a | ⟨a1, a2⟩
      · rcases b with b | ⟨b1, b2⟩
        · exact absurd a (by grind)
        · rw [b1] at a
          exact absurd a (by grind)
      · rcases b with b | ⟨b1, b2⟩
        · rw [a1] at b
          exact absurd b (by grind)
        · exact ⟨a2, b2⟩
    have ei : i = i' := by unfold lexN at e; omega
    have ej : j = j' := by unfold lexN at e; omega
    subst ei ej
    rw [h3] at g3
    rw [h4] at g4
    cases g3
    cases g4
    rw [near_uniq h5 g5]
theorem cmp_v {f g : Fr} (hf : Rd f) (hg : Rd g) : cmpF f g < 0 ↔ val f < val g := by
  rw [cmp_neg, lt_val hf.1 hg.1]
  exact decide_eq_true_iff
def sp_nearof : ASp := fun rs k => ∃ (ls : List Leg) (rho : Fr), rs = [.dat (.tuple (ls.map lD)), .dat (fD rho)] ∧ ls.length ≤ 100 ∧ (∀ l ∈ ls, Bl l) ∧ Un rho ∧ ∀ o, NearOf ls rho o → k (.dat (nfD o))
/-- apart by r: no couple, or the nearest is not nearer -/
def apartB (r : Int) : Option Nf → Bool
  | none => true
  | some (q, _, _) => !ltF q.1 (r * r, 1)
def sp_areapart : ASp := fun rs k => ∃ (ls : List Leg) (rho : Fr) (r : Int), rs = [.dat (.tuple (ls.map lD)), .dat (fD rho), .dat (.int r)] ∧ ls.length ≤ 100 ∧ (∀ l ∈ ls, Bl l) ∧ Un rho ∧ (-1000000 < r ∧ r < 1000000) ∧ ∀ o, NearOf ls rho o → k (.dat (.bool (apartB r o)))
def sp_flap : ASp := fun rs k => ∃ (b : Bd) (t : Int) (ls : List Leg), rs = [.dat (bD b), .dat (.int t), .dat (.tuple (ls.map lD))] ∧ ls.length ≤ 100 ∧ (∀ l ∈ ls, Bl l) ∧ (1 ≤ t ∧ t ≤ 1073741824) ∧ (0 ≤ b.L ∧ b.L ≤ t) ∧ (-1000000 < b.R ∧ b.R < 1000000) ∧ ∀ o, NearOf ls (lowF b.L t) o → k (.dat (.bool (apartB b.R o)))
theorem lex_two (a b c d : Int) : HT.lexLt [a, b] [c, d] = decide (a < c ∨ (a = c ∧ b < d)) := by
  rw [HT.lexLt_cons, HT.lexLt_cons]
  by_cases h : a = c
  · subst h
    rw [if_pos rfl]
    by_cases g : b = d
    · subst g
      rw [if_pos rfl]
      show HT.lexLt [] [] = _
      rw [show HT.lexLt [] [] = false from rfl]
      exact (decide_eq_false (by omega)).symm
    · rw [if_neg g]
      exact decide_eq_decide.mpr (by omega)
  · rw [if_neg h]
    exact decide_eq_decide.mpr (by omega)
abbrev S_ (q : Rw) : Prop := S 400 q.1 ∧ S 400 q.2.1 ∧ S 400 q.2.2
theorem nf_s {ls : List Leg} {rho : Fr} {q : Rw} {i j : Nat} {S : Nat → Nat → Prop} (hb : ∀ l ∈ ls, Bl l) (hu : Un rho) (h : NSet ls rho S (some (q, i, j))) : S_ q := by
  obtain ⟨⟨_, _, l, m, h3, h4, h5⟩, _⟩ := h
  exact near_s (hb _ (List.mem_of_getElem? h3)) (hb _ (List.mem_of_getElem? h4)) hu h5
theorem small_pt {i : Int} (h1 : -1000000 < i) (h2 : i < 1000000) : Small 8 0 (.int i) := small_int 7 (by decide) (by decide) (Nat.lt_of_lt_of_le (show i.natAbs < 1000000 by omega) (by decide))
theorem small_cD {c : Col} {n : Int} (h : Nr n c) (hn : n < 1000000) : Small 23 1 (cD c) := by
  obtain ⟨⟨h1, h2⟩, h3, h4⟩ := h
  refine (small_tup (L := 8) (D := 0) 2 (by simp) fun x hx => ?_).mono (by decide) (by decide)
  simp only [List.mem_cons, List.not_mem_nil, or_false] at hx
  rcases hx with rfl | rfl
  · exact small_pt (by omega) (by omega)
  · exact small_pt (by omega) (by omega)
theorem small_lD {l : Leg} {n : Int} (h : Nr n l.1 ∧ Nr n l.2) (hn : n < 1000000) : Small 53 2 (lD l) := by
  refine (small_tup (L := 23) (D := 1) 2 (by simp) fun x hx => ?_).mono (by decide) (by decide)
  simp only [List.mem_cons, List.not_mem_nil, or_false] at hx
  rcases hx with rfl | rfl
  · exact small_cD h.1 hn
  · exact small_cD h.2 hn
theorem small_legs {ls : List Leg} {n : Int} (k : Nat) (hk : ls.length ≤ k) (h : ∀ l ∈ ls, Nr n l.1 ∧ Nr n l.2) (hn : n < 1000000) : Small (55 * k + 3) 3 (.tuple (ls.map lD)) := by
  refine small_tup (L := 53) (D := 2) k (by rw [List.length_map]; exact hk) fun x hx => ?_
  obtain ⟨l, hl, rfl⟩ := List.mem_map.mp hx
  exact small_lD (h l hl) hn
theorem tells_legs (ls : List Leg) (hl : ls.length ≤ 6) (h : ∀ l ∈ ls, Nr 7000 l.1 ∧ Nr 7000 l.2) : Tells (.tuple (ls.map lD)) := (small_legs 6 hl h (by decide)).tells (by decide) (by decide)
theorem small_nf {ls : List Leg} {rho : Fr} {o : Option Nf} (hb : ∀ l ∈ ls, Bl l) (hu : Un rho) (hl : ls.length ≤ 100) (h : NearOf ls rho o) : Small 1400 2 (nfD o) := by
  cases o with
  | none => exact small_none.mono (by decide) (by decide)
  | some p =>
    obtain ⟨q, i, j⟩ := p
    have s0 := nf_s hb hu h
    obtain ⟨⟨_, h2, l, m, h3, h4, _⟩, _⟩ := h
    have hi := (List.getElem?_eq_some_iff.mp h3).1
    have hj := (List.getElem?_eq_some_iff.mp h4).1
    refine (small_tup (L := 255) (D := 1) 5 (by simp) fun x hx => ?_).mono (by decide) (by decide)
    simp only [List.mem_cons, List.not_mem_nil, or_false] at hx
    rcases hx with rfl | rfl | rfl | rfl | rfl
    · exact small_fD s0.1
    · exact (small_pt (by omega) (by omega)).mono (by decide) (by decide)
    · exact (small_pt (by omega) (by omega)).mono (by decide) (by decide)
    · exact small_fD s0.2.1
    · exact small_fD s0.2.2
end My

namespace My
variable [Dl.LamT]
open PySem PySem.Spec L2 Dl
open Frac
/-! ### as RHO grows -/
structure Dr (f : Fr) : Prop where
  un : Un f
  low : f.2 ≤ 100
theorem dr_low {n d : Int} (h0 : 0 ≤ n) (h1 : n ≤ d) (h2 : 0 < d) (h3 : d ≤ 100) : Dr (lowF n d) := ⟨low_un h0 h1 h2 (by omega), by
  have := (low_ok (n := n) (Int.ne_of_gt h2)).1.2
  show lowD n d ≤ 100
  omega⟩
theorem dr_zero : Dr ((0, 1) : Fr) := ⟨un_zero, by decide⟩
theorem dr_one : Dr ((1, 1) : Fr) := ⟨un_one, by decide⟩
def sp_frac1 : ASp := fun rs k => rs = [.bag] ∧ ∀ f : Fr, Dr f → k (.dat (fD f))
def sp_some1 : ASp := fun rs k => rs = [.bag] ∧ ∀ (l m : Leg) (rho : Fr) (r : Int), Bs l → Bs m → Dr rho → (1 ≤ r ∧ r ≤ 500) → k (.dat (.tuple [lD l, lD m, fD rho, .int r]))
theorem H_mono {r r' : Rat} (h : r ≤ r') {p : Pt} (hp : Frac.H r p) : Frac.H r' p := ⟨hp.1, hp.2.1, Rat.le_trans hp.2.2.1 h, Rat.le_trans hp.2.2.2 h⟩
/-- the nearest falls as RHO grows -/
theorem near_fall {l m : Leg} {rho rho' : Fr} (hu : Un rho) (hu' : Un rho') (h : val rho ≤ val rho') {a b : Rw} (ha : NearR l m rho a) (hb : NearR l m rho' b) : val b.1 ≤ val a.1 := by
  obtain ⟨h1, e1, m1⟩ := near_min2 hu ha
  obtain ⟨h2, e2, m2⟩ := near_min2 hu' hb
  rw [e1, e2]
  exact m2 _ (H_mono h h1)
theorem not_below {l m : Leg} {rho rho' : Fr} (hu : Un rho) (hu' : Un rho') (h : val rho ≤ val rho') {a b : Rw} (ha : NearR l m rho a) (hb : NearR l m rho' b) : ltF a.1 b.1 = false :=
  (ltF_false ha.2.1.1.1 hb.2.1.1.1).mpr (near_fall hu hu' h ha hb)
/-- a RHO between two -/
def amidF (lo hi p : Fr) : Fr := addF lo (mulF p (lesF hi lo))
theorem amid_v {lo hi p : Fr} (h1 : 0 < lo.2) (h2 : 0 < hi.2) (h3 : 0 < p.2) : 0 < (amidF lo hi p).2 ∧ val (amidF lo hi p) = val lo + val p * (val hi - val lo) := by
  unfold amidF
  refine ⟨pos_add h1 (pos_mul h3 (pos_les h2 h1)), ?_⟩
  rw [val_add h1 (pos_mul h3 (pos_les h2 h1)), val_mul h3 (pos_les h2 h1), val_les h2 h1]
theorem amid_un {lo hi p : Fr} (h1 : Dr lo) (h2 : Dr hi) (h3 : Dr p) (hle : val lo ≤ val hi) : Un (amidF lo hi p) ∧ val lo ≤ val (amidF lo hi p) ∧ val (amidF lo hi p) ≤ val hi := by
  obtain ⟨ap, av⟩ := amid_v (p := p) h1.un.pos h2.un.pos h3.un.pos
  obtain ⟨p0, p1⟩ := h3.un.v
  obtain ⟨l0, l1⟩ := h1.un.v
  obtain ⟨r0, r1⟩ := h2.un.v
  have b1 : val lo ≤ val (amidF lo hi p) := by
    rw [av]
    have := Rat.mul_nonneg p0 (show 0 ≤ val hi - val lo by grind)
    grind
  have b2 : val (amidF lo hi p) ≤ val hi := by
    rw [av]
    have := Rat.mul_nonneg (show 0 ≤ 1 - val p by grind) (show 0 ≤ val hi - val lo by grind)
    grind
  have rd : Rd (amidF lo hi p) := rd_add h1.un.pos (pos_mul h3.un.pos (pos_les h2.un.pos h1.un.pos))
  have nn : 0 ≤ (amidF lo hi p).1 := (val_nonneg ap).mpr (by grind)
  have le : (amidF lo hi p).1 ≤ (amidF lo hi p).2 := by
    have := (val_le_one ap).mpr (show val (amidF lo hi p) ≤ 1 by grind)
    unfold ltF at this
    have := of_decide_eq_false this
    dsimp only at this
    omega
  refine ⟨⟨nn, le, ap, ?_, rd.2⟩, b1, b2⟩
  have x1 := h1.low
  have x2 := h2.low
  have x3 := h3.low
  have y1 := h1.un.pos
  have y2 := h2.un.pos
  have y3 := h3.un.pos
  have e : val (amidF lo hi p) = ((lo.1 * (p.2 * hi.2) + p.1 * (hi.1 * lo.2 - lo.1 * hi.2) : Int) : Rat) / ((lo.2 * (p.2 * hi.2) : Int) : Rat) := by
    rw [av]
    have c1 := cast_pos y1
    have c2 := cast_pos y2
    have c3 := cast_pos y3
    simp only [Rat.intCast_add, Rat.intCast_mul, Rat.intCast_sub]
    unfold val
    grind
  have q1 : 0 < p.2 * hi.2 := Int.mul_pos y3 y2
  have q2 : 0 < lo.2 * (p.2 * hi.2) := Int.mul_pos y1 q1
  have s := (rd_small rd q2 e).2
  have t1 : p.2 * hi.2 ≤ 100 * 100 := Int.mul_le_mul x3 x2 (by omega) (by omega)
  have t2 : lo.2 * (p.2 * hi.2) ≤ 100 * (100 * 100) := Int.mul_le_mul x1 t1 (by omega) (by omega)
  omega
theorem conv_q {qa qz qb B C x : Rat} (e : qz = qa + 2 * B + C) (k : qb ≤ qa + 2 * x * B + x * x * C) (t : 0 ≤ x * (1 - x) * C) : qb ≤ qa + x * (qz - qa) := by
  subst e
  have e2 : qa + x * (qa + 2 * B + C - qa) = (qa + 2 * x * B + x * x * C) + x * (1 - x) * C := by grind
  rw [e2]
  grind
/-- the worth at a RHO between two is at most what lies between -/
theorem near_conv {l m : Leg} {lo hi p : Fr} (h1 : Dr lo) (h2 : Dr hi) (h3 : Dr p) (hle : val lo ≤ val hi) {a b c : Rw} (ha : NearR l m lo a) (hb : NearR l m (amidF lo hi p) b) (hc : NearR l m hi c) :
    ltF (amidF a.1 c.1 p) b.1 = false := by
  obtain ⟨hua, l1, l2⟩ := amid_un h1 h2 h3 hle
  obtain ⟨_, av⟩ := amid_v (p := p) h1.un.pos h2.un.pos h3.un.pos
  obtain ⟨q1, q2⟩ := amid_v (p := p) ha.2.1.1.1 hc.2.1.1.1 h3.un.pos
  rw [ltF_false q1 hb.2.1.1.1, q2]
  obtain ⟨ya, ea, _⟩ := near_min2 h1.un ha
  obtain ⟨yc, ec, _⟩ := near_min2 h2.un hc
  obtain ⟨_, eb, mb⟩ := near_min2 hua hb
  obtain ⟨p0, p1⟩ := h3.un.v
  generalize (val a.2.1, val a.2.2) = y at *
  generalize (val c.2.1, val c.2.2) = z at *
  have hm : Frac.H (val (amidF lo hi p)) (mid y z (val p)) := by
    rw [av]
    obtain ⟨⟨a1, a2⟩, ⟨a3, a4⟩, a5, a6⟩ := ya
    obtain ⟨⟨c1, c2⟩, ⟨c3, c4⟩, c5, c6⟩ := yc
    unfold mid
    refine ⟨⟨conv_ge p0 p1 a1 c1, conv_le p0 p1 a2 c2⟩, ⟨conv_ge p0 p1 a3 c3, conv_le p0 p1 a4 c4⟩, ?_, ?_⟩
    · have i1 := Rat.mul_nonneg p0 (show 0 ≤ val hi - (z.1 - z.2) by grind)
      have i2 := Rat.mul_nonneg (show 0 ≤ 1 - val p by grind) (show 0 ≤ val lo - (y.1 - y.2) by grind)
      dsimp only
      grind
    · have i1 := Rat.mul_nonneg p0 (show 0 ≤ val hi - (z.2 - z.1) by grind)
      have i2 := Rat.mul_nonneg (show 0 ≤ 1 - val p by grind) (show 0 ≤ val lo - (y.2 - y.1) by grind)
      dsimp only
      grind
  have k := mb _ hm
  rw [Q_mid] at k
  have C0 := Cq_nonneg l m y z
  have e1 : Q l m z = Q l m y + 2 * Bq l m y z + Cq l m y z := by
    have := Q_mid (l := l) (m := m) (c := y) (d := z) (x := 1)
    have em : mid y z 1 = z := by unfold mid; ext <;> grind
    rw [em] at this
    grind
  have := Rat.mul_nonneg (Rat.mul_nonneg p0 (show 0 ≤ 1 - val p by grind)) C0
  rw [ea, ec, eb]
  exact conv_q e1 k this
/-- an away paper stays one as RHO falls, a near one as it grows -/
theorem away_down {l m : Leg} {rho its : Fr} (hu : Un rho) (hi : Un its) (h : val its ≤ val rho) {r : Int} {c : Col} (hp : PapV l m rho r (awayD c)) : PapV l m its r (awayD c) := by
  rw [papv_away] at hp ⊢
  exact ⟨hp.1, fun e he => far_in hu.v.1 hp (H_mono h (edges_H hi.v.1 hi.v.2 e he).1)⟩
theorem near_up {l m : Leg} {rho its : Fr} (h : val rho ≤ val its) {r : Int} {s t : Fr} (hp : PapV l m rho r (nearD s t)) : PapV l m its r (nearD s t) := by
  rw [papv_near] at hp ⊢
  exact ⟨H_mono h hp.1, hp.2⟩
theorem eqv_bool2 (a b : Bool) : PyData.eqv (.bool a) (.bool b) = (a == b) := by
  cases a <;> cases b <;> simp [PyData.eqv]
end My

/-! plain law of the spacing: crossless legs that are spaced stay apart -/
namespace Frac
variable [Dl.LamT]
open PySem L2 Dl
/-- root a is at least root k and root b together -/
def Enq (a b k : Rat) : Prop := 0 ≤ a - k - b ∧ 4 * k * b ≤ (a - k - b) * (a - k - b)
theorem sqr_le {x y : Rat} (hx : 0 ≤ x) (h : x ≤ y) : x * x ≤ y * y := by
  have a := Rat.mul_nonneg (show 0 ≤ y - x by grind) (show 0 ≤ y + x by grind)
  grind
theorem sqr_le_of {x y : Rat} (hx : 0 ≤ x) (h : y * y ≤ x * x) : y ≤ x := by
  refine Rat.not_lt.mp fun hn => ?_
  have a := Rat.mul_pos (show 0 < y - x by grind) (show 0 < y + x by grind)
  grind
theorem enq_far {a b k a1 a2 b1 b2 : Rat} (h : Enq a b k) (hk : 0 ≤ k) (hA : a ≤ a1 * a1 + a2 * a2) (hB : b1 * b1 + b2 * b2 ≤ b) : k ≤ (a1 + b1) * (a1 + b1) + (a2 + b2) * (a2 + b2) := by
  refine Rat.not_lt.mp fun hn => ?_
  obtain ⟨h0, h1⟩ := h
  have e1 : a1 = (a1 + b1) - b1 := by grind
  have e2 : a2 = (a2 + b2) - b2 := by grind
  generalize a1 + b1 = c1 at *
  generalize a2 + b2 = c2 at *
  subst e1 e2
  have hc : 0 ≤ c1 * c1 + c2 * c2 := by
    have := sqr_nonneg c1
    have := sqr_nonneg c2
    grind
  have hb : 0 ≤ b1 * b1 + b2 * b2 := by
    have := sqr_nonneg b1
    have := sqr_nonneg b2
    grind
  have lag := sqr_nonneg (c1 * b2 - c2 * b1)
  have hx : a - k - b < -2 * (c1 * b1 + c2 * b2) := by grind
  have hxx : (a - k - b) * (a - k - b) < (-2 * (c1 * b1 + c2 * b2)) * (-2 * (c1 * b1 + c2 * b2)) := by
    have := Rat.mul_pos (show 0 < -2 * (c1 * b1 + c2 * b2) - (a - k - b) by grind) (show 0 < -2 * (c1 * b1 + c2 * b2) + (a - k - b) by grind)
    grind
  have p1 := Rat.mul_nonneg hc (show 0 ≤ b - (b1 * b1 + b2 * b2) by grind)
  have p2 := Rat.mul_nonneg (show 0 ≤ k - (c1 * c1 + c2 * c2) by grind) (show 0 ≤ b by grind)
  have q : (-2 * (c1 * b1 + c2 * b2)) * (-2 * (c1 * b1 + c2 * b2)) = 4 * ((c1 * c1 + c2 * c2) * (b1 * b1 + b2 * b2)) - 4 * ((c1 * b2 - c2 * b1) * (c1 * b2 - c2 * b1)) := by grind
  grind
theorem enq_more {a b k p d : Rat} (h : Enq a b k) (hk : 0 ≤ k) (hb : 0 ≤ b) (p0 : 0 ≤ p) (p1 : p ≤ 1) (hab : p * p * a ≤ b) (hd : 0 ≤ d) : Enq (a + d) (b + p * p * d) k := by
  obtain ⟨h0, h1⟩ := h
  have ey : a = k + b + (a - k - b) := by grind
  generalize a - k - b = y at *
  subst ey
  have pp := sqr_nonneg p
  have pp1 : p * p ≤ 1 := by
    have := Rat.mul_nonneg p0 (show 0 ≤ 1 - p by grind)
    grind
  have ppy := Rat.mul_nonneg pp h0
  have ppk := Rat.mul_nonneg pp hk
  -- z
  have hc : p * p * y ≤ b * (1 - p * p) - p * p * k := by grind
  have hcc := sqr_le ppy hc
  have e4 : 4 * (p * p) * (p * p) * (k * b) ≤ (p * p * y) * (p * p * y) := by
    have := Rat.mul_nonneg (Rat.mul_nonneg pp pp) (show 0 ≤ y * y - 4 * k * b by grind)
    grind
  have hbp := Rat.mul_nonneg hb p0
  have hbpp := Rat.mul_nonneg hb pp
  have z0 : 0 ≤ (1 - p) * (1 - p) * b - p * p * k := by
    refine Rat.not_lt.mp fun hn => ?_
    have id : (b * (1 - p * p) - p * p * k) * (b * (1 - p * p) - p * p * k) - 4 * (p * p) * (p * p) * (k * b) = ((1 - p) * (1 - p) * b - p * p * k) * ((1 + p) * (1 + p) * b - p * p * k) := by grind
    have hz : 0 ≤ (1 + p) * (1 + p) * b - p * p * k := by grind
    have hzz : (1 + p) * (1 + p) * b - p * p * k = 0 := by
      refine Rat.le_antisymm (Rat.not_lt.mp fun hp => ?_) hz
      have := Rat.mul_pos (show 0 < -((1 - p) * (1 - p) * b - p * p * k) by grind) hp
      grind
    have f1 : b * p = 0 := by grind
    rcases Rat.mul_eq_zero.mp f1 with f | f
    · subst f
      grind
    · subst f
      grind
  have key : 2 * k * (p * p) ≤ y * (1 - p * p) := by
    refine sqr_le_of (Rat.mul_nonneg h0 (by grind)) ?_
    have g1 : 0 ≤ (y * y - 4 * k * b) * ((1 - p * p) * (1 - p * p)) := Rat.mul_nonneg (by grind) (sqr_nonneg _)
    have g2 := Rat.mul_nonneg (Rat.mul_nonneg hk (sqr_nonneg (1 + p))) z0
    have g3 := Rat.mul_nonneg (Rat.mul_nonneg (sqr_nonneg k) pp) (show 0 ≤ (1 + p) * (1 + p) - p * p by grind)
    have e1 : (1 - p * p) * (1 - p * p) = (1 - p) * (1 - p) * ((1 + p) * (1 + p)) := by grind
    grind
  have hd2 := Rat.mul_nonneg hd (show 0 ≤ y * (1 - p * p) - 2 * k * (p * p) by grind)
  have hd3 := sqr_nonneg ((1 - p * p) * d)
  have hd4 := Rat.mul_nonneg (show 0 ≤ 1 - p * p by grind) hd
  have hy : k + b + y + d - k - (b + p * p * d) = y + (1 - p * p) * d := by grind
  refine ⟨by rw [hy]; grind, ?_⟩
  rw [hy]
  grind
/-- two crossless legs whose froms and tos are far enough, no way too far: apart -/
theorem spaced_far {ux uy ax ay bx by_ s t r S2 W2 k : Rat} (h : Enq (S2 / 2) (r * r * (W2 - S2 / 2)) k) (hk : 0 ≤ k) (hS : 0 ≤ S2) (hSW : S2 ≤ W2) (r0 : 0 ≤ r) (r1 : r ≤ 1)
    (hu : S2 ≤ ux * ux + uy * uy) (hv : S2 ≤ (ux + bx - ax) * (ux + bx - ax) + (uy + by_ - ay) * (uy + by_ - ay)) (hx : 0 ≤ ux * (ux + bx - ax) + uy * (uy + by_ - ay))
    (ha : ax * ax + ay * ay ≤ W2) (hb : bx * bx + by_ * by_ ≤ W2) (s0 : 0 ≤ s) (s1 : s ≤ 1) (t0 : 0 ≤ t) (t1 : t ≤ 1) (hst : s - t ≤ r) (hts : t - s ≤ r) :
    k ≤ (ux + t * bx - s * ax) * (ux + t * bx - s * ax) + (uy + t * by_ - s * ay) * (uy + t * by_ - s * ay) := by
  have ehx : ux + t * bx - s * ax = (ux + ((s + t) / 2) * (bx - ax)) + (t - s) * ((ax + bx) / 2) := by grind
  have ehy : uy + t * by_ - s * ay = (uy + ((s + t) / 2) * (by_ - ay)) + (t - s) * ((ay + by_) / 2) := by grind
  rw [ehx, ehy]
  have h0 : 0 ≤ (s + t) / 2 := by grind
  have h1 : (s + t) / 2 ≤ 1 := by grind
  generalize (s + t) / 2 = c at *
  have ee : (t - s) * (t - s) ≤ r * r := by
    rcases (Rat.le_total : 0 ≤ t - s ∨ t - s ≤ 0) with g | g
    · exact sqr_le g hts
    · have := sqr_le (show 0 ≤ s - t by grind) hst
      grind
  generalize t - s = e at *
  -- what parts the middles
  have A1 : S2 / 2 ≤ (ux + c * (bx - ax)) * (ux + c * (bx - ax)) + (uy + c * (by_ - ay)) * (uy + c * (by_ - ay)) := by
    have m1 := Rat.mul_nonneg (sqr_nonneg (1 - c)) (show 0 ≤ ux * ux + uy * uy - S2 by grind)
    have m2 := Rat.mul_nonneg (sqr_nonneg c) (show 0 ≤ (ux + bx - ax) * (ux + bx - ax) + (uy + by_ - ay) * (uy + by_ - ay) - S2 by grind)
    have m3 := Rat.mul_nonneg (Rat.mul_nonneg h0 (show 0 ≤ 1 - c by grind)) hx
    have m4 := Rat.mul_nonneg hS (sqr_nonneg (2 * c - 1))
    have id : (ux + c * (bx - ax)) * (ux + c * (bx - ax)) + (uy + c * (by_ - ay)) * (uy + c * (by_ - ay)) = (1 - c) * (1 - c) * (ux * ux + uy * uy) + c * c * ((ux + bx - ax) * (ux + bx - ax) + (uy + by_ - ay) * (uy + by_ - ay)) + 2 * (c * (1 - c) * (ux * (ux + bx - ax) + uy * (uy + by_ - ay))) := by grind
    have id2 : S2 * ((2 * c - 1) * (2 * c - 1)) = 2 * ((1 - c) * (1 - c) * S2 + c * c * S2) - S2 := by grind
    grind
  have A2 : S2 - ((bx - ax) * (bx - ax) + (by_ - ay) * (by_ - ay)) / 4 ≤ (ux + c * (bx - ax)) * (ux + c * (bx - ax)) + (uy + c * (by_ - ay)) * (uy + c * (by_ - ay)) := by
    have m1 := Rat.mul_nonneg (show 0 ≤ 1 - c by grind) (show 0 ≤ ux * ux + uy * uy - S2 by grind)
    have m2 := Rat.mul_nonneg h0 (show 0 ≤ (ux + bx - ax) * (ux + bx - ax) + (uy + by_ - ay) * (uy + by_ - ay) - S2 by grind)
    have w0 : 0 ≤ (bx - ax) * (bx - ax) + (by_ - ay) * (by_ - ay) := by
      have := sqr_nonneg (bx - ax)
      have := sqr_nonneg (by_ - ay)
      grind
    have m3 := Rat.mul_nonneg (sqr_nonneg (2 * c - 1)) w0
    have id : (ux + c * (bx - ax)) * (ux + c * (bx - ax)) + (uy + c * (by_ - ay)) * (uy + c * (by_ - ay)) = (1 - c) * (ux * ux + uy * uy) + c * ((ux + bx - ax) * (ux + bx - ax) + (uy + by_ - ay) * (uy + by_ - ay)) - c * (1 - c) * ((bx - ax) * (bx - ax) + (by_ - ay) * (by_ - ay)) := by grind
    grind
  -- the common way
  have M : (e * ((ax + bx) / 2)) * (e * ((ax + bx) / 2)) + (e * ((ay + by_) / 2)) * (e * ((ay + by_) / 2)) ≤ r * r * (W2 - ((bx - ax) * (bx - ax) + (by_ - ay) * (by_ - ay)) / 4) := by
    have n0 : 0 ≤ ((ax + bx) / 2) * ((ax + bx) / 2) + ((ay + by_) / 2) * ((ay + by_) / 2) := by
      have := sqr_nonneg ((ax + bx) / 2)
      have := sqr_nonneg ((ay + by_) / 2)
      grind
    have n1 := Rat.mul_nonneg (show 0 ≤ r * r - e * e by grind) n0
    have n2 := Rat.mul_nonneg (sqr_nonneg r) (show 0 ≤ W2 - ((bx - ax) * (bx - ax) + (by_ - ay) * (by_ - ay)) / 4 - (((ax + bx) / 2) * ((ax + bx) / 2) + ((ay + by_) / 2) * ((ay + by_) / 2)) by grind)
    grind
  generalize ((bx - ax) * (bx - ax) + (by_ - ay) * (by_ - ay)) / 4 = q at *
  have rr := sqr_nonneg r
  rcases (Rat.le_total : S2 / 2 ≤ q ∨ q ≤ S2 / 2) with g | g
  · refine enq_far h hk A1 (Rat.le_trans M ?_)
    have := Rat.mul_nonneg rr (show 0 ≤ q - S2 / 2 by grind)
    grind
  · have hr1 : r * r ≤ 1 := by
      have := Rat.mul_nonneg r0 (show 0 ≤ 1 - r by grind)
      grind
    have hm := enq_more (d := S2 / 2 - q) h hk (Rat.mul_nonneg rr (by grind)) r0 r1 (by
      have := Rat.mul_nonneg rr (show 0 ≤ W2 - S2 by grind)
      grind) (by grind)
    refine enq_far hm hk (by grind) (Rat.le_trans M ?_)
    grind
theorem far_of {l m : Leg} {r S2 W2 k : Rat} {a : Tr} (hn : Near l m r a) (h : Enq (S2 / 2) (r * r * (W2 - S2 / 2)) k) (hk : 0 ≤ k) (hS : 0 ≤ S2) (hSW : S2 ≤ W2) (r0 : 0 ≤ r) (r1 : r ≤ 1)
    (hu : S2 ≤ ((m.1.1 : Rat) - l.1.1) * ((m.1.1 : Rat) - l.1.1) + ((m.1.2 : Rat) - l.1.2) * ((m.1.2 : Rat) - l.1.2)) (hv : S2 ≤ ((m.2.1 : Rat) - l.2.1) * ((m.2.1 : Rat) - l.2.1) + ((m.2.2 : Rat) - l.2.2) * ((m.2.2 : Rat) - l.2.2))
    (hx : 0 ≤ ((m.1.1 : Rat) - l.1.1) * ((m.2.1 : Rat) - l.2.1) + ((m.1.2 : Rat) - l.1.2) * ((m.2.2 : Rat) - l.2.2))
    (ha : ((l.2.1 : Rat) - l.1.1) * ((l.2.1 : Rat) - l.1.1) + ((l.2.2 : Rat) - l.1.2) * ((l.2.2 : Rat) - l.1.2) ≤ W2) (hb : ((m.2.1 : Rat) - m.1.1) * ((m.2.1 : Rat) - m.1.1) + ((m.2.2 : Rat) - m.1.2) * ((m.2.2 : Rat) - m.1.2) ≤ W2) : k ≤ a.1 := by
  obtain ⟨⟨y, hy, rfl⟩, _⟩ := hn
  obtain ⟨⟨y1, y2⟩, ⟨y3, y4⟩, y5, y6⟩ := cand_H r0 r1 hy
  show k ≤ Q l m y
  unfold Q gx gy
  have e := spaced_far (ux := (m.1.1 : Rat) - l.1.1) (uy := (m.1.2 : Rat) - l.1.2) (ax := (l.2.1 : Rat) - l.1.1) (ay := (l.2.2 : Rat) - l.1.2) (bx := (m.2.1 : Rat) - m.1.1) (by_ := (m.2.2 : Rat) - m.1.2) (s := y.1) (t := y.2) h hk hS hSW r0 r1 hu
    (by grind) (by grind) ha hb y1 y2 y3 y4 y5 y6
  grind
end Frac

namespace My
variable [Dl.LamT]
open PySem PySem.Spec L2 Dl
open Frac
/-! ## the inequality of spacing -/
def reachI (b : Bd) (n : Int) : Int := n * n * (2 * b.wa * b.wa - b.sp * b.sp)
def restI (b : Bd) (n d : Int) : Int := b.sp * b.sp * d * d - 2 * b.R * b.R * d * d - reachI b n
def encB (b : Bd) (n d : Int) : Bool := decide (0 ≤ restI b n d) && decide (8 * b.R * b.R * d * d * reachI b n ≤ restI b n d * restI b n d)
def EnoughP (b : Bd) (t : Int) : Prop := 0 ≤ restI b b.L t ∧ 8 * b.R * b.R * t * t * reachI b b.L ≤ restI b b.L t * restI b b.L t
def mineI (b : Bd) (t : Int) : Int := (b.sp * b.sp + 2 * b.R * b.R) * t * t - b.L * b.L * (2 * b.wa * b.wa - b.sp * b.sp)
def lawB (b : Bd) (t : Int) : Bool := !decide (b.sp * b.sp < 2 * b.R * b.R) && (decide (0 ≤ mineI b t) && decide (8 * b.sp * b.sp * b.R * b.R * t * t * t * t ≤ mineI b t * mineI b t))
theorem sqI_nonneg (a : Int) : 0 ≤ a * a := by
  rcases Int.le_total 0 a with h | h
  · exact Int.mul_nonneg h h
  · have := Int.mul_nonneg (show 0 ≤ -a by omega) (show 0 ≤ -a by omega)
    grind
theorem sqI_le {x y : Int} (hx : 0 ≤ x) (h : x ≤ y) : x * x ≤ y * y := Int.mul_le_mul h h hx (Int.le_trans hx h)
theorem low_mul (n : Int) {d : Int} (hd : 0 < d) : ∃ g : Int, 0 < g ∧ n = g * lowN n d ∧ d = g * lowD n d := by
  obtain ⟨e1, e2, _, _⟩ := low_red n (Int.ne_of_gt hd)
  have hg : 0 < Nat.gcd n.natAbs d.natAbs := Nat.gcd_pos_of_pos_right _ (by omega)
  have h1 : ((Nat.gcd n.natAbs d.natAbs : Nat) : Int) ∣ n := Int.natAbs_dvd_natAbs.mp (by simpa using Nat.gcd_dvd_left n.natAbs d.natAbs)
  have h2 : ((Nat.gcd n.natAbs d.natAbs : Nat) : Int) ∣ d := Int.natAbs_dvd_natAbs.mp (by simpa using Nat.gcd_dvd_right n.natAbs d.natAbs)
  refine ⟨((Nat.gcd n.natAbs d.natAbs : Nat) : Int), by omega, ?_, ?_⟩
  · rw [e1 hd]
    exact (Int.mul_ediv_cancel' h1).symm
  · rw [e2 hd]
    exact (Int.mul_ediv_cancel' h2).symm
theorem enc_scale {b : Bd} {n d g : Int} (hg : 0 < g) : (0 ≤ restI b (g * n) (g * d) ∧ 8 * b.R * b.R * (g * d) * (g * d) * reachI b (g * n) ≤ restI b (g * n) (g * d) * restI b (g * n) (g * d)) ↔ (0 ≤ restI b n d ∧ 8 * b.R * b.R * d * d * reachI b n ≤ restI b n d * restI b n d) := by
  have gg : 0 < g * g := Int.mul_pos hg hg
  have e1 : restI b (g * n) (g * d) = g * g * restI b n d := by
    unfold restI reachI
    grind
  have e2 : 8 * b.R * b.R * (g * d) * (g * d) * reachI b (g * n) = (g * g) * ((g * g) * (8 * b.R * b.R * d * d * reachI b n)) := by
    unfold reachI
    grind
  have e3 : restI b (g * n) (g * d) * restI b (g * n) (g * d) = (g * g) * ((g * g) * (restI b n d * restI b n d)) := by
    rw [e1]
    grind
  rw [e2, e3, e1]
  constructor
  · rintro ⟨h1, h2⟩
    refine ⟨Int.not_lt.mp fun z => ?_, Int.le_of_mul_le_mul_left (Int.le_of_mul_le_mul_left h2 gg) gg⟩
    have := Int.mul_neg_of_pos_of_neg gg z
    omega
  · rintro ⟨h1, h2⟩
    exact ⟨Int.mul_nonneg (Int.le_of_lt gg) h1, Int.mul_le_mul_of_nonneg_left (Int.mul_le_mul_of_nonneg_left h2 (Int.le_of_lt gg)) (Int.le_of_lt gg)⟩
theorem enc_iff {b : Bd} {t : Int} (ht : 0 < t) : encB b (lowN b.L t) (lowD b.L t) = true ↔ EnoughP b t := by
  obtain ⟨g, hg, e1, e2⟩ := low_mul b.L ht
  unfold EnoughP encB
  rw [Bool.and_eq_true, decide_eq_true_eq, decide_eq_true_eq, ← enc_scale hg]
  rw [← e1, ← e2]
structure BdP (b : Bd) : Prop where
  sp : 1 ≤ b.sp
  wa : b.sp ≤ b.wa
  R : 1 ≤ b.R
  L : 0 ≤ b.L
theorem BdOk.p {b : Bd} (h : BdOk b) : BdP b := ⟨h.sp.1, h.wa.1, h.r0.1, h.l0.1⟩
theorem BdP.way {b : Bd} (h : BdP b) : b.sp * b.sp ≤ b.wa * b.wa := sqI_le (by have := h.sp; omega) h.wa
theorem BdP.reach {b : Bd} (h : BdP b) (n : Int) : 0 ≤ reachI b n := by
  have := h.way
  have := sqI_nonneg b.wa
  refine Int.mul_nonneg (sqI_nonneg n) ?_
  grind
theorem heron (X Z b : Int) : (X - Z - b) * (X - Z - b) - 4 * Z * b = (X + Z - b) * (X + Z - b) - 4 * X * Z := by grind
theorem law_iff {b : Bd} {t : Int} (h : BdP b) (ht : 0 < t) : lawB b t = true ↔ EnoughP b t := by
  have hr := h.reach b.L
  have ZR : 1 ≤ b.R * b.R := by
    have := Int.mul_le_mul h.R h.R (by decide) (by have := h.R; omega)
    omega
  have tt : 0 < t * t := Int.mul_pos ht ht
  have hd := heron (b.sp * b.sp * (t * t)) (2 * (b.R * b.R) * (t * t)) (reachI b b.L)
  have e1 : restI b b.L t = b.sp * b.sp * (t * t) - 2 * (b.R * b.R) * (t * t) - reachI b b.L := by unfold restI; grind
  have e2 : mineI b t = b.sp * b.sp * (t * t) + 2 * (b.R * b.R) * (t * t) - reachI b b.L := by unfold mineI reachI; grind
  have e3 : 8 * b.R * b.R * t * t * reachI b b.L = 4 * (2 * (b.R * b.R) * (t * t)) * reachI b b.L := by grind
  have e4 : 8 * b.sp * b.sp * b.R * b.R * t * t * t * t = 4 * (b.sp * b.sp * (t * t)) * (2 * (b.R * b.R) * (t * t)) := by grind
  unfold lawB EnoughP
  rw [Bool.and_eq_true, Bool.and_eq_true, Bool.not_eq_true', decide_eq_false_iff_not, decide_eq_true_eq, decide_eq_true_eq, e1, e2, e3, e4]
  have x0 : 2 * b.R * b.R = 2 * (b.R * b.R) := by grind
  rw [x0]
  have xz : ¬ b.sp * b.sp < 2 * (b.R * b.R) ↔ 2 * (b.R * b.R) * (t * t) ≤ b.sp * b.sp * (t * t) := by
    rw [Int.not_lt]
    exact ⟨fun q => Int.mul_le_mul_of_nonneg_right q (Int.le_of_lt tt), fun q => Int.le_of_mul_le_mul_right q tt⟩
  rw [xz]
  have z0 : 0 < 2 * (b.R * b.R) * (t * t) := Int.mul_pos (by omega) tt
  generalize b.sp * b.sp * (t * t) = X at *
  generalize 2 * (b.R * b.R) * (t * t) = Z at *
  generalize reachI b b.L = c at *
  constructor
  · rintro ⟨h1, h2, h3⟩
    refine ⟨?_, by omega⟩
    have k1 : (2 * Z) * (2 * Z) ≤ (X + Z - c) * (X + Z - c) := by
      have := Int.mul_le_mul_of_nonneg_right h1 (Int.le_of_lt z0)
      grind
    have k2 : 2 * Z ≤ X + Z - c := by
      refine Int.not_lt.mp fun z => ?_
      have := Int.mul_lt_mul' (show X + Z - c ≤ 2 * Z by omega) z h2 (show 0 < 2 * Z by omega)
      omega
    omega
  · rintro ⟨h1, h2⟩
    exact ⟨by omega, by omega, by omega⟩
theorem lawB_eq {b : Bd} {t : Int} (h : BdP b) (ht : 0 < t) : lawB b t = encB b (lowN b.L t) (lowD b.L t) := Bool.eq_iff_iff.mpr ((law_iff h ht).trans (enc_iff ht).symm)
/-- more ticks are enough, too -/
theorem enough_mono {b : Bd} {t u : Int} (h : BdP b) (ht : 0 < t) (hu : t ≤ u) (he : EnoughP b t) : EnoughP b u := by
  have hu0 : 0 < u := by omega
  rw [← law_iff h ht] at he
  rw [← law_iff h hu0]
  unfold lawB at *
  rw [Bool.and_eq_true, Bool.and_eq_true, Bool.not_eq_true', decide_eq_false_iff_not, decide_eq_true_eq, decide_eq_true_eq] at *
  obtain ⟨h1, h2, h3⟩ := he
  have hc : 0 ≤ b.L * b.L * (2 * b.wa * b.wa - b.sp * b.sp) := h.reach b.L
  have tt : 0 < t * t := Int.mul_pos ht ht
  have uu : 0 < u * u := Int.mul_pos hu0 hu0
  have tu : t * t ≤ u * u := sqI_le (Int.le_of_lt ht) hu
  have k1 : u * u * mineI b t ≤ t * t * mineI b u := by
    have := Int.mul_nonneg hc (show 0 ≤ u * u - t * t by omega)
    unfold mineI
    grind
  have k0 : 0 ≤ u * u * mineI b t := Int.mul_nonneg (Int.le_of_lt uu) h2
  have k2 : 0 ≤ mineI b u := by
    refine Int.not_lt.mp fun z => ?_
    have := Int.mul_neg_of_pos_of_neg tt z
    omega
  have k3 := sqI_le k0 k1
  have k4 := Int.mul_le_mul_of_nonneg_left h3 (Int.le_of_lt (Int.mul_pos uu uu))
  refine ⟨h1, k2, ?_⟩
  refine Int.le_of_mul_le_mul_left ?_ (Int.mul_pos tt tt)
  have e1 : u * u * mineI b t * (u * u * mineI b t) = u * u * (u * u) * (mineI b t * mineI b t) := by grind
  have e2 : t * t * mineI b u * (t * t * mineI b u) = t * t * (t * t) * (mineI b u * mineI b u) := by grind
  have e3 : u * u * (u * u) * (8 * b.sp * b.sp * b.R * b.R * t * t * t * t) = t * t * (t * t) * (8 * b.sp * b.sp * b.R * b.R * u * u * u * u) := by grind
  omega
/-- where spacing is enough at all, so many ticks are -/
theorem enough_big {b : Bd} (h : BdOk b) (hg : ¬ (b.sp * b.sp - 2 * b.R * b.R < 0 ∨ (b.sp * b.sp - 2 * b.R * b.R = 0 ∧ 0 < b.L))) : EnoughP b 536870912 := by
  have hp := h.p
  have hr := hp.reach b.L
  have s1 := h.sp
  have w1 := h.wa
  have l1 := h.l0
  have r1 := h.r0
  have x0 : 2 * b.R * b.R = 2 * (b.R * b.R) := by grind
  have ss : b.sp * b.sp ≤ 10000 := by
    have := Int.mul_le_mul s1.2 s1.2 (by omega) (by decide)
    omega
  have RR := sqI_nonneg b.R
  have ww : b.wa * b.wa ≤ 360000 := by
    have := Int.mul_le_mul w1.2 w1.2 (by omega) (by decide)
    omega
  have ll : b.L * b.L ≤ 900 := by
    have := Int.mul_le_mul l1.2 l1.2 (by omega) (by decide)
    omega
  have ll0 := sqI_nonneg b.L
  have ss0 := sqI_nonneg b.sp
  have e1 : restI b b.L 536870912 = (b.sp * b.sp - 2 * (b.R * b.R)) * 288230376151711744 - reachI b b.L := by unfold restI; grind
  have e3 : 8 * b.R * b.R * 536870912 * 536870912 * reachI b b.L = 8 * (b.R * b.R * reachI b b.L) * 288230376151711744 := by grind
  have rl : reachI b b.L ≤ 648000000 := by
    unfold reachI
    have e : 2 * b.wa * b.wa = 2 * (b.wa * b.wa) := by grind
    have hw := hp.way
    have ww0 := sqI_nonneg b.wa
    have := Int.mul_le_mul ll (show 2 * b.wa * b.wa - b.sp * b.sp ≤ 720000 by omega) (by omega) (by decide)
    omega
  rw [x0] at hg
  unfold EnoughP
  rw [e1, e3]
  by_cases hL : b.L = 0
  · have rz : reachI b b.L = 0 := by
      unfold reachI
      rw [hL]
      grind
    rw [rz]
    refine ⟨by omega, ?_⟩
    rw [Int.mul_zero]
    exact sqI_nonneg _
  · have g1 : 1 ≤ b.sp * b.sp - 2 * (b.R * b.R) := by omega
    have q1 : b.R * b.R * reachI b b.L ≤ 5000 * 648000000 := Int.mul_le_mul (by omega) rl hr (by decide)
    generalize b.sp * b.sp - 2 * (b.R * b.R) = G at *
    generalize reachI b b.L = c at *
    generalize b.R * b.R * c = w at *
    have q2 : 144115188075855872 ≤ G * 288230376151711744 - c := by omega
    refine ⟨by omega, ?_⟩
    have := Int.mul_le_mul q2 q2 (by decide) (by omega)
    omega
/-- the least ticks -/
def LeastE (b : Bd) : Option Int → Prop
  | none => b.sp * b.sp - 2 * b.R * b.R < 0 ∨ (b.sp * b.sp - 2 * b.R * b.R = 0 ∧ 0 < b.L)
  | some t => (1 ≤ t ∧ b.L ≤ t ∧ t ≤ 536870912) ∧ EnoughP b t ∧ ∀ u, 1 ≤ u → b.L ≤ u → u < t → ¬ EnoughP b u
def oiD : Option Int → PyData
  | none => .none
  | some t => .int t
theorem enough_gap {b : Bd} {t : Int} (h : BdP b) (ht : 0 < t) (he : EnoughP b t) : ¬ (b.sp * b.sp - 2 * b.R * b.R < 0 ∨ (b.sp * b.sp - 2 * b.R * b.R = 0 ∧ 0 < b.L)) := by
  have hr := h.reach b.L
  have tt : 0 < t * t := Int.mul_pos ht ht
  have x0 : 2 * b.R * b.R = 2 * (b.R * b.R) := by grind
  rw [x0]
  have e1 : restI b b.L t = (b.sp * b.sp - 2 * (b.R * b.R)) * (t * t) - reachI b b.L := by unfold restI; grind
  obtain ⟨h1, _⟩ := he
  rw [e1] at h1
  rintro (z | ⟨z, zl⟩)
  · have := Int.mul_neg_of_neg_of_pos z tt
    omega
  · rw [z] at h1
    have hs : 0 < b.sp * b.sp := Int.mul_pos (by have := h.sp; omega) (by have := h.sp; omega)
    have hw := h.way
    have : 0 < reachI b b.L := by
      unfold reachI
      have e : 2 * b.wa * b.wa = 2 * (b.wa * b.wa) := by grind
      exact Int.mul_pos (Int.mul_pos zl zl) (by omega)
    omega
theorem leastE_one {b : Bd} {o o' : Option Int} (hb : BdP b) (h : LeastE b o) (g : LeastE b o') : o = o' := by
  match o, o', h, g with
  | none, none, _, _ => rfl
  | none, some t, h, ⟨g1, g2, _⟩ => exact absurd h (enough_gap hb (by omega) g2)
  | some t, none, ⟨g1, g2, _⟩, h => exact absurd h (enough_gap hb (by omega) g2)
  | some t, some u, ⟨h1, h2, h3⟩, ⟨g1, g2, g3⟩ =>
    have : t = u := by
      rcases Int.lt_trichotomy t u with z | z | z
      · exact absurd h2 (g3 t h1.1 h1.2.1 z)
      · exact z
      · exact absurd g2 (h3 u g1.1 g1.2.1 z)
    rw [this]
def BdS (b : Bd) : Prop := Lt 60 b.sp ∧ Lt 60 b.wa ∧ Lt 60 b.R ∧ Lt 60 b.L
theorem BdOk.s {b : Bd} (h : BdOk b) : BdS b := by
  have s1 := h.sp
  have w1 := h.wa
  have l1 := h.l0
  have r1 := h.r0
  exact ⟨lt_small (by omega) (by omega) (by decide), lt_small (by omega) (by omega) (by decide), lt_small (by omega) (by omega) (by decide), lt_small (by omega) (by omega) (by decide)⟩
def sp_enough : ASp := fun rs k => ∃ (b : Bd) (t : Int), rs = [.dat (bD b), .dat (.int t)] ∧ BdS b ∧ Lt 60 t ∧ 0 < t ∧ k (.dat (.bool (encB b (lowN b.L t) (lowD b.L t))))
def sp_lenough : ASp := fun rs k => ∃ (b : Bd) (t : Int), rs = [.dat (bD b), .dat (.int t)] ∧ BdS b ∧ Lt 60 t ∧ 0 < t ∧ k (.dat (.bool (lawB b t)))
def FirstE (b : Bd) (m : Int) : Option Int → Prop
  | none => ¬ EnoughP b m
  | some t => (1 ≤ t ∧ b.L ≤ t ∧ t ≤ m) ∧ EnoughP b t ∧ ∀ u, 1 ≤ u → b.L ≤ u → u < t → ¬ EnoughP b u
theorem first_least {b : Bd} {o : Option Int} (hb : BdOk b) (hg : ¬ (b.sp * b.sp - 2 * b.R * b.R < 0 ∨ (b.sp * b.sp - 2 * b.R * b.R = 0 ∧ 0 < b.L))) (h : FirstE b 1000000000000 o) : LeastE b o := by
  have big := enough_big hb hg
  have hL := hb.l0
  cases o with
  | none => exact absurd (enough_mono hb.p (by decide) (by decide) big) h
  | some t =>
    obtain ⟨h1, h2, h3⟩ := h
    exact ⟨⟨h1.1, h1.2.1, Int.not_lt.mp fun z => h3 536870912 (by decide) (by omega) z big⟩, h2, h3⟩
def sp_lfirst : ASp := fun rs k => ∃ (b : Bd) (m : Int), rs = [.dat (bD b), .dat (.int m)] ∧ BdOk b ∧ (30 ≤ m ∧ m ≤ 1000000000000) ∧ ∀ o, FirstE b m o → k (.dat (oiD o))
def sp_lleast : ASp := fun rs k => ∃ b : Bd, rs = [.dat (bD b)] ∧ BdOk b ∧ ∀ o, LeastE b o → k (.dat (oiD o))
theorem cm60 {a b : Nat} {i j : Int} (h : Lt a i) (g : Lt b j) (h0 : 0 < a) (h1 : 0 < b) (h2 : a + b ≤ 1000000) : CMulW i j := h.cm g h0 h1 h2
/-! ## enough: apart -/
theorem cast_add (i j : Int) : ((i + j : Int) : Rat) = (i : Rat) + j := Rat.intCast_add i j
theorem cast_mul (i j : Int) : ((i * j : Int) : Rat) = (i : Rat) * j := Rat.intCast_mul i j
theorem cast_sub (i j : Int) : ((i - j : Int) : Rat) = (i : Rat) - j := Rat.intCast_sub i j
theorem cast_le {i j : Int} (h : i ≤ j) : (i : Rat) ≤ (j : Rat) := Rat.intCast_le_intCast.mpr h
theorem enq_of {b : Bd} {t : Int} (ht : 0 < t) (he : EnoughP b t) {r : Rat} (hr : r * (t : Rat) = (b.L : Rat)) :
    Enq (((b.sp : Rat) * b.sp) / 2) (r * r * ((b.wa : Rat) * b.wa - ((b.sp : Rat) * b.sp) / 2)) ((b.R : Rat) * b.R) := by
  obtain ⟨h1, h2⟩ := he
  have h1 := cast_le h1
  have h2 := cast_le h2
  have t0 : (0 : Rat) < (t : Rat) := by
    have := Rat.intCast_lt_intCast.mpr ht
    simpa using this
  unfold restI reachI at h1 h2
  simp only [cast_sub, cast_mul] at h1 h2
  have z0 : ((0 : Int) : Rat) = 0 := rfl
  have z2 : ((2 : Int) : Rat) = 2 := rfl
  have z8 : ((8 : Int) : Rat) = 8 := rfl
  rw [z0] at h1
  rw [z8] at h2
  rw [z2] at h1 h2
  generalize (b.sp : Rat) = S at *
  generalize (b.wa : Rat) = W at *
  generalize (b.R : Rat) = R at *
  generalize (b.L : Rat) = L at *
  generalize (t : Rat) = T at *
  subst hr
  have tt : 0 < T * T := Rat.mul_pos t0 t0
  have e1 : S * S * T * T - 2 * R * R * T * T - r * T * (r * T) * (2 * W * W - S * S) = (2 * (T * T)) * (S * S / 2 - R * R - r * r * (W * W - S * S / 2)) := by grind
  have e2 : 8 * R * R * T * T * (r * T * (r * T) * (2 * W * W - S * S)) = (4 * (T * T) * (T * T)) * (4 * (R * R) * (r * r * (W * W - S * S / 2))) := by grind
  rw [e1] at h1 h2
  rw [e2] at h2
  unfold Enq
  generalize S * S / 2 - R * R - r * r * (W * W - S * S / 2) = Y at *
  generalize 4 * (R * R) * (r * r * (W * W - S * S / 2)) = U at *
  refine ⟨Rat.not_lt.mp fun z => ?_, Rat.not_lt.mp fun z => ?_⟩
  · have := Rat.mul_pos (show 0 < 2 * (T * T) by grind) (show 0 < -Y by grind)
    grind
  · have := Rat.mul_pos (Rat.mul_pos (show 0 < 4 * (T * T) by grind) tt) (show 0 < U - Y * Y by grind)
    grind
theorem val_lowL {n d : Int} (hd : 0 < d) : val (lowF n d) * (d : Rat) = (n : Rat) := by
  obtain ⟨g, hg, e1, e2⟩ := low_mul n hd
  have hp : 0 < lowD n d := (low_ok (n := n) (Int.ne_of_gt hd)).1.1
  have h0 : ((lowD n d : Int) : Rat) ≠ 0 := by
    have := Rat.intCast_lt_intCast.mpr hp
    have z : ((0 : Int) : Rat) = 0 := rfl
    grind
  have e1 := congrArg (fun i : Int => (i : Rat)) e1
  have e2 := congrArg (fun i : Int => (i : Rat)) e2
  simp only [cast_mul] at e1 e2
  rw [e1, e2]
  show ((lowN n d : Int) : Rat) / ((lowD n d : Int) : Rat) * ((g : Rat) * ((lowD n d : Int) : Rat)) = _
  grind
def wayI (l : Leg) : Int := sqD l.1 l.2
theorem cast_sq (a b c d : Int) : (((a - b) * (a - b) + (c - d) * (c - d) : Int) : Rat) = ((b : Rat) - a) * ((b : Rat) - a) + ((d : Rat) - c) * ((d : Rat) - c) := by
  simp only [cast_add, cast_mul, cast_sub]
  grind
/-- the theorem of spacing, of two legs -/
theorem spaced_apart {b : Bd} {t : Int} {l m : Leg} {q : Rw} (hb : BdP b) (ht : 0 < t) (hLt : b.L ≤ t) (he : EnoughP b t) (hq : NearR l m (lowF b.L t) q)
    (h1 : b.sp * b.sp ≤ sqD l.1 m.1) (h2 : b.sp * b.sp ≤ sqD l.2 m.2) (hx : 0 ≤ crossI l m) (w1 : wayI l ≤ b.wa * b.wa) (w2 : wayI m ≤ b.wa * b.wa) : ltF q.1 (b.R * b.R, 1) = false := by
  have hr := val_lowL (n := b.L) ht
  have hL := hb.L
  have t0 : (0 : Rat) < (t : Rat) := by
    have := Rat.intCast_lt_intCast.mpr ht
    simpa using this
  have l0 : (0 : Rat) ≤ (b.L : Rat) := by
    have := cast_le hL
    simpa using this
  have lt' : (b.L : Rat) ≤ (t : Rat) := cast_le hLt
  have r0 : 0 ≤ val (lowF b.L t) := by
    refine Rat.not_lt.mp fun z => ?_
    have := Rat.mul_pos (show 0 < -val (lowF b.L t) by grind) t0
    grind
  have r1 : val (lowF b.L t) ≤ 1 := by
    refine Rat.not_lt.mp fun z => ?_
    have := Rat.mul_pos (show 0 < val (lowF b.L t) - 1 by grind) t0
    grind
  have e := enq_of ht he hr
  have way := cast_le hb.way
  have ss := cast_le (sqI_nonneg b.sp)
  have kk := cast_le (sqI_nonneg b.R)
  have z0 : ((0 : Int) : Rat) = 0 := rfl
  simp only [cast_mul] at way ss kk
  rw [z0] at ss kk
  have g1 := cast_le h1
  have g2 := cast_le h2
  have g3 := cast_le hx
  have g4 := cast_le w1
  have g5 := cast_le w2
  unfold sqD at g1 g2
  unfold wayI sqD at g4 g5
  unfold crossI at g3
  rw [cast_sq, cast_mul] at g1 g2 g4 g5
  rw [z0, cast_add, cast_mul, cast_mul, cast_sub, cast_sub, cast_sub, cast_sub] at g3
  have far := far_of hq.2.2.2 e kk ss way r0 r1 g1 g2 g3 g4 g5
  rw [ltF_false hq.2.1.1.1 one_pos]
  rw [val_int, cast_mul]
  exact far
/-! ## apart, couple by couple -/
def BadR (l m : Leg) (rho : Fr) (r : Int) : Prop := ∃ q, NearR l m rho q ∧ ltF q.1 (r * r, 1) = true
noncomputable def badB (l m : Leg) (rho : Fr) (r : Int) : Bool := @decide (BadR l m rho r) (Classical.propDecidable _)
theorem badB_of {l m : Leg} {rho : Fr} {r : Int} {q : Rw} (h : NearR l m rho q) : badB l m rho r = ltF q.1 (r * r, 1) := by
  unfold badB
  cases hl : ltF q.1 (r * r, 1) with
  | true => exact @decide_eq_true _ (Classical.propDecidable _) ⟨q, h, hl⟩
  | false =>
    refine @decide_eq_false _ (Classical.propDecidable _) ?_
    rintro ⟨p, hp, hb⟩
    rw [near_uniq hp h, hl] at hb
    cases hb
theorem apartB_iff {ls : List Leg} {rho : Fr} {r : Int} {o : Option Nf} (h : NearOf ls rho o) : apartB r o = true ↔ ∀ (i j : Nat) (l m : Leg), i < j → ls[i]? = some l → ls[j]? = some m → badB l m rho r = false := by
  cases o with
  | none => exact ⟨fun _ i j l m hij hl hm => absurd trivial (h i j hij (List.getElem?_eq_some_iff.mp hm).1), fun _ => rfl⟩
  | some p =>
    obtain ⟨q, i, j⟩ := p
    obtain ⟨⟨_, h2, l, m, h3, h4, h5⟩, h6⟩ := h
    unfold apartB
    rw [Bool.not_eq_true']
    constructor
    · intro hb i' j' l' m' hij hl hm
      unfold badB
      refine @decide_eq_false _ (Classical.propDecidable _) ?_
      rintro ⟨q', hq', hb'⟩
      have := h6 i' j' l' m' q' hij hl hm trivial hq'
      rw [ltF_false h5.2.1.1.1 one_pos] at hb
      rw [lt_val hq'.2.1.1.1 one_pos] at hb'
      have hb' := of_decide_eq_true hb'
      rcases this with z | ⟨z, _⟩
      · grind
      · rw [z] at hb
        grind
    · intro hall
      have := hall i j l m h2 h3 h4
      rw [badB_of h5] at this
      exact this
def sp_bad : ASp := fun rs k => ∃ (b : Bd) (t : Int) (l m : Leg), rs = [.dat (bD b), .dat (.int t), .dat (.tuple [lD l, lD m])] ∧ Bl l ∧ Bl m ∧ (1 ≤ t ∧ t ≤ 1073741824) ∧ (0 ≤ b.L ∧ b.L ≤ t) ∧ (-1000000 < b.R ∧ b.R < 1000000) ∧ k (.dat (.bool (badB l m (lowF b.L t) b.R)))
theorem badB_false {l m : Leg} {rho : Fr} {r : Int} (h : ∀ q, NearR l m rho q → ltF q.1 (r * r, 1) = false) : badB l m rho r = false := by
  unfold badB
  refine @decide_eq_false _ (Classical.propDecidable _) ?_
  rintro ⟨q, hq, hb⟩
  rw [h q hq] at hb
  cases hb
theorem flight_ok {b : Bd} {t n : Int} {ls : List Leg} (hb : BdP b) (ht : 0 < t) (hLt : b.L ≤ t) (hls : LegsOk b.sp n ls) (hn : n ≤ 5) (he : EnoughP b t) :
    ∀ (i j : Nat) (l m : Leg), i < j → (ls.filter fun l => decide (wayI l ≤ b.wa * b.wa))[i]? = some l → (ls.filter fun l => decide (wayI l ≤ b.wa * b.wa))[j]? = some m → badB l m (lowF b.L t) b.R = false := by
  intro i j l m hij hl hm
  have p : (ls.filter fun l => decide (wayI l ≤ b.wa * b.wa)).Pairwise (fun l m => (b.sp * b.sp ≤ sqD l.1 m.1 ∧ b.sp * b.sp ≤ sqD l.2 m.2) ∧ 0 ≤ crossI l m) := by
    refine List.Pairwise.sublist List.filter_sublist ?_
    have f := hls.froms
    have g := hls.tos
    unfold Spaced at f g
    rw [List.pairwise_map] at f g
    exact (f.and g).and (hls.cross hn)
  have hi := List.getElem?_eq_some_iff.mp hl
  have hj := List.getElem?_eq_some_iff.mp hm
  obtain ⟨i1, rfl⟩ := hi
  obtain ⟨j1, rfl⟩ := hj
  obtain ⟨⟨h1, h2⟩, h3⟩ := List.pairwise_iff_getElem.mp p i j i1 j1 hij
  have wi := (List.mem_filter.mp (List.getElem_mem i1)).2
  have wj := (List.mem_filter.mp (List.getElem_mem j1)).2
  exact badB_false fun q hq => spaced_apart hb ht hLt he hq h1 h2 h3 (of_decide_eq_true wi) (of_decide_eq_true wj)
theorem two_lt : Lt 2 (2 : Int) := lt_of (by decide)
theorem eight_lt : Lt 4 (8 : Int) := lt_of (by decide)
theorem tells_bool (b : Bool) : Tells (.bool b) := small_bool.tells (by decide) (by decide)
end My

namespace My
variable [Dl.LamT]
open PySem PySem.Spec L2 Dl
open Frac
/-! ## the order of columns and legs -/
def leC (a b : Col) : Bool := decide (a.1 < b.1 ∨ (a.1 = b.1 ∧ a.2 ≤ b.2))
def leL (l m : Leg) : Bool := if l.1 = m.1 then leC l.2 m.2 else leC l.1 m.1
theorem leC_anti {a b : Col} (h : leC a b = true) (g : leC b a = true) : a = b := by
  have h := of_decide_eq_true h
  have g := of_decide_eq_true g
  exact Prod.ext (by omega) (by omega)
theorem leC_trans {a b c : Col} (h : leC a b = true) (g : leC b c = true) : leC a c = true := by
  have h := of_decide_eq_true h
  have g := of_decide_eq_true g
  exact decide_eq_true (by omega)
theorem leC_total (a b : Col) : leC a b = true ∨ leC b a = true := by
  by_cases h : a.1 < b.1 ∨ (a.1 = b.1 ∧ a.2 ≤ b.2)
  · exact .inl (decide_eq_true h)
  · exact .inr (decide_eq_true (by omega))
theorem leC_refl (a : Col) : leC a a = true := decide_eq_true (.inr ⟨rfl, Int.le_refl _⟩)
theorem leL_anti {l m : Leg} (h : leL l m = true) (g : leL m l = true) : l = m := by
  unfold leL at h g
  by_cases e : l.1 = m.1
  · rw [if_pos e] at h
    rw [if_pos e.symm] at g
    exact Prod.ext e (leC_anti h g)
  · rw [if_neg e] at h
    rw [if_neg (Ne.symm e)] at g
    exact absurd (leC_anti h g) e
theorem leL_trans {l m n : Leg} (h : leL l m = true) (g : leL m n = true) : leL l n = true := by
  unfold leL at *
  by_cases e : l.1 = m.1
  · rw [if_pos e] at h
    by_cases f : m.1 = n.1
    · rw [if_pos f] at g
      rw [if_pos (e.trans f)]
      exact leC_trans h g
    · rw [if_neg f] at g
      rw [if_neg (by rw [e]; exact f), e]
      exact g
  · rw [if_neg e] at h
    by_cases f : m.1 = n.1
    · rw [← f, if_neg e]
      exact h
    · rw [if_neg f] at g
      have k := leC_trans h g
      by_cases z : l.1 = n.1
      · rw [z] at h
        exact absurd (leC_anti g h) f
      · rw [if_neg z]
        exact k
theorem leL_total (l m : Leg) : leL l m = true ∨ leL m l = true := by
  unfold leL
  by_cases e : l.1 = m.1
  · rw [if_pos e, if_pos e.symm]
    exact leC_total _ _
  · rw [if_neg e, if_neg (Ne.symm e)]
    exact leC_total _ _
theorem leC_tot (a b : Col) : (leC a b || leC b a) = true := by
  rcases leC_total a b with h | h <;> rw [h]
  · rfl
  · exact Bool.or_true _
theorem leL_tot (a b : Leg) : (leL a b || leL b a) = true := by
  rcases leL_total a b with h | h <;> rw [h]
  · rfl
  · exact Bool.or_true _
theorem flatMap_perm {α β : Type} {f g : α → List β} : ∀ l : List α, (∀ a ∈ l, (f a).Perm (g a)) → (l.flatMap f).Perm (l.flatMap g)
  | [], _ => .refl _
  | a :: l, h => by
    rw [List.flatMap_cons, List.flatMap_cons]
    exact (h a (by simp)).append (flatMap_perm l fun b hb => h b (List.mem_cons_of_mem _ hb))
theorem alike_cD (a b : Col) : PySem.W.alike (cD a) (cD b) = true := by
  unfold cD
  simp [PySem.W.alike, PySem.W.alikeAll]
theorem alike_lD (a b : Leg) : PySem.W.alike (lD a) (lD b) = true := by
  unfold lD
  simp [PySem.W.alike, PySem.W.alikeAll, alike_cD]
theorem le_cD : PySem.W.dataLe false cD = leC := by
  have := PySem.W.dataLe_ii (fun c : Col => c.1) (fun c : Col => c.2)
  exact this
theorem lt_cD (a b : Col) : PySem.W.dataLt (cD a) (cD b) = !leC b a := by
  have := PySem.W.dataLt_ii a.1 a.2 b.1 b.2
  refine (show PySem.W.dataLt (cD a) (cD b) = _ from this).trans ?_
  unfold leC
  by_cases h : a.1 < b.1 ∨ (a.1 = b.1 ∧ a.2 < b.2)
  · rw [decide_eq_true h, decide_eq_false (by omega)]
    rfl
  · rw [decide_eq_false h, decide_eq_true (by omega)]
    rfl
theorem le_lD : PySem.W.dataLe false lD = leL := by
  funext a b
  rw [PySem.W.dataLe_eq]
  show (!PySem.W.dataLt (lD b) (lD a)) = leL a b
  have := PySem.W.dataLt_pair (alike_cD b.1 a.1) (alike_cD b.2 a.2)
  rw [show PySem.W.dataLt (lD b) (lD a) = _ from this, eqv_cD, eqv_cD, lt_cD, lt_cD]
  unfold leL
  by_cases e : a.1 = b.1
  · rw [if_pos (decide_eq_true e.symm), if_pos e]
    by_cases f : b.2 = a.2
    · rw [if_pos (decide_eq_true f), f, leC_refl]
      rfl
    · rw [if_neg (by rw [decide_eq_false f]; decide), Bool.not_not]
  · rw [if_neg (by rw [decide_eq_false (Ne.symm e)]; decide), if_neg e, Bool.not_not]
theorem sort_cD (cs : List Col) : (cs.map cD).mergeSort (PySem.W.dataLe false id) = (cs.mergeSort leC).map cD := by
  rw [← le_cD]
  exact (PySem.W.sort_maps (r := PySem.W.dataLe false cD) (s := PySem.W.dataLe false id) cD (fun _ _ _ _ => rfl)).symm
theorem sort_lD (ls : List Leg) : (ls.map lD).mergeSort (PySem.W.dataLe false id) = (ls.mergeSort leL).map lD := by
  rw [← le_lD]
  exact (PySem.W.sort_maps (r := PySem.W.dataLe false lD) (s := PySem.W.dataLe false id) lD (fun _ _ _ _ => rfl)).symm
theorem alike_cs (cs : List Col) : PySem.W.AllAlike (cs.map cD) := PySem.W.AllAlike.of alike_cD
theorem alike_ls (ls : List Leg) : PySem.W.AllAlike (ls.map lD) := PySem.W.AllAlike.of alike_lD
theorem sortable_cs (cs : List Col) : PySem.W.Sortable (cs.map cD) := PySem.W.Sortable.tuples fun c => ⟨_, _, rfl⟩
theorem sortable_ls (ls : List Leg) : PySem.W.Sortable (ls.map lD) := PySem.W.Sortable.tuples fun c => ⟨_, _, rfl⟩
theorem sort_c {x : Res} {cs : List Col} {k : Res → Prop} (hx : x.items = some (cs.map cD) ∨ x = .dat (.tuple (cs.map cD))) (g : k (.fresh ((cs.mergeSort leC).map cD))) : SortDP [x] k := .mk hx (alike_cs cs) (sortable_cs cs) (fun d hd => by
  obtain ⟨c, _, rfl⟩ := List.mem_map.mp hd
  exact Nat.le_trans (laid_fD c).2 (by decide)) (by rw [sort_cD]; exact g)
theorem sort_l {x : Res} {ls : List Leg} {k : Res → Prop} (hx : x.items = some (ls.map lD) ∨ x = .dat (.tuple (ls.map lD))) (g : k (.fresh ((ls.mergeSort leL).map lD))) : SortDP [x] k := .mk hx (alike_ls ls) (sortable_ls ls) (fun d hd => by
  obtain ⟨c, _, rfl⟩ := List.mem_map.mp hd
  exact Nat.le_trans (laid_pD c).2 (by decide)) (by rw [sort_lD]; exact g)
/-! ## legs between two lots -/
def row (tos : List Col) (W2 : Int) (a : Col) : List Leg := (tos.filter fun b => decide (sqD a b ≤ W2)).map fun b => (a, b)
def legsP (froms tos : List Col) (W2 : Int) : List Leg := froms.flatMap (row tos W2)
def legsS (froms tos : List Col) (W2 : Int) : List Leg := (legsP froms tos W2).mergeSort leL
theorem row_len (tos : List Col) (W2 : Int) (a : Col) : (row tos W2 a).length ≤ tos.length := by
  unfold row
  rw [List.length_map]
  exact List.length_filter_le _ _
theorem legsP_len : ∀ (froms tos : List Col) (W2 : Int), (legsP froms tos W2).length ≤ froms.length * tos.length
  | [], _, _ => by simp [legsP]
  | a :: r, tos, W2 => by
    have h1 := legsP_len r tos W2
    have h2 := row_len tos W2 a
    unfold legsP at *
    rw [List.flatMap_cons, List.length_append, List.length_cons, Nat.add_mul]
    omega
theorem legsS_len (froms tos : List Col) (W2 : Int) : (legsS froms tos W2).length ≤ froms.length * tos.length := by
  unfold legsS
  rw [List.length_mergeSort]
  exact legsP_len froms tos W2
theorem mem_legsP {froms tos : List Col} {W2 : Int} {l : Leg} : l ∈ legsP froms tos W2 ↔ l.1 ∈ froms ∧ l.2 ∈ tos ∧ wayI l ≤ W2 := by
  unfold legsP row wayI
  simp only [List.mem_flatMap, List.mem_map, List.mem_filter, decide_eq_true_eq]
  constructor
  · rintro ⟨a, ha, b, ⟨hb, hw⟩, rfl⟩
    exact ⟨ha, hb, hw⟩
  · rintro ⟨h1, h2, h3⟩
    exact ⟨l.1, h1, l.2, ⟨h2, h3⟩, rfl⟩
theorem mem_legsS {froms tos : List Col} {W2 : Int} {l : Leg} : l ∈ legsS froms tos W2 ↔ l.1 ∈ froms ∧ l.2 ∈ tos ∧ wayI l ≤ W2 := by
  unfold legsS
  rw [List.mem_mergeSort]
  exact mem_legsP
theorem spaced_nodup {s : Int} {cs : List Col} (hs : 1 ≤ s) (h : Spaced s cs) : cs.Nodup := by
  refine h.imp fun {a b} hab e => ?_
  subst e
  have : 0 < s * s := Int.mul_pos (by omega) (by omega)
  unfold sqD at hab
  rw [Int.sub_self, Int.sub_self] at hab
  omega
/-- row by row of the sorted lots: the sorted legs -/
theorem legs_rows {froms tos : List Col} {W2 : Int} (hn : froms.Nodup) : (froms.mergeSort leC).flatMap (row (tos.mergeSort leC) W2) = legsS froms tos W2 := by
  have pf : (froms.mergeSort leC).Perm froms := List.mergeSort_perm _ _
  have pt : (tos.mergeSort leC).Perm tos := List.mergeSort_perm _ _
  refine List.Perm.eq_of_pairwise (le := fun a b => leL a b = true) (fun a b _ _ h g => leL_anti h g) ?_ ?_ ?_
  · refine List.pairwise_flatMap.mpr ⟨fun a _ => ?_, ?_⟩
    · unfold row
      rw [List.pairwise_map]
      refine List.Pairwise.imp (R := fun b c => leC b c = true) (fun {b c} h => ?_) (List.Pairwise.sublist List.filter_sublist (List.pairwise_mergeSort (le := leC) (fun _ _ _ => leC_trans) leC_tot tos))
      unfold leL
      rw [if_pos rfl]
      exact h
    · have nd : (froms.mergeSort leC).Nodup := pf.symm.nodup hn
      have pw := List.pairwise_mergeSort (le := leC) (fun _ _ _ => leC_trans) leC_tot froms
      refine (pw.and nd).imp fun {a b} h l hl m hm => ?_
      obtain ⟨c, _, rfl⟩ := List.mem_map.mp hl
      obtain ⟨d, _, rfl⟩ := List.mem_map.mp hm
      unfold leL
      rw [if_neg h.2]
      exact h.1
  · exact List.pairwise_mergeSort (le := leL) (fun _ _ _ => leL_trans) leL_tot _
  · refine List.Perm.trans ?_ (List.mergeSort_perm _ _).symm
    unfold legsP
    refine (flatMap_perm _ fun a _ => ?_).trans (pf.flatMap_right _)
    unfold row
    exact (pt.filter _).map _
/-! ## couples -/
def meets (l m : Leg) : Bool := !decide (l.1 = m.1) && (!decide (l.2 = m.2) && !decide (crossI l m < 0))
def coupl : List Leg → List (Leg × Leg)
  | [] => []
  | l :: r => (r.filter (meets l)).map (fun m => (l, m)) ++ coupl r
theorem coupl_len : ∀ ls : List Leg, (coupl ls).length ≤ ls.length * ls.length
  | [] => by simp [coupl]
  | l :: r => by
    have h1 := coupl_len r
    have h2 := List.length_filter_le (meets l) r
    unfold coupl
    rw [List.length_append, List.length_map, List.length_cons, Nat.add_mul, Nat.mul_add]
    omega
theorem mem_coupl : ∀ (ls : List Leg) (p : Leg × Leg), p ∈ coupl ls → p.1 ∈ ls ∧ p.2 ∈ ls ∧ meets p.1 p.2 = true
  | [], p, h => by simp [coupl] at h
  | l :: r, p, h => by
    unfold coupl at h
    rcases List.mem_append.mp h with h | h
    · obtain ⟨m, hm, rfl⟩ := List.mem_map.mp h
      obtain ⟨h1, h2⟩ := List.mem_filter.mp hm
      exact ⟨by simp, List.mem_cons_of_mem _ h1, h2⟩
    · obtain ⟨h1, h2, h3⟩ := mem_coupl r p h
      exact ⟨List.mem_cons_of_mem _ h1, List.mem_cons_of_mem _ h2, h3⟩
theorem coupl_drop {ls : List Leg} {t : Nat} {l : Leg} (h : ls[t]? = some l) : coupl (ls.drop t) = ((ls.drop (t + 1)).filter (meets l)).map (fun m => (l, m)) ++ coupl (ls.drop (t + 1)) := by
  obtain ⟨ht, e⟩ := List.getElem?_eq_some_iff.mp h
  rw [List.drop_eq_getElem_cons ht, e]
  rfl
def clD (p : Leg × Leg) : PyData := .tuple [lD p.1, lD p.2]
noncomputable def badC (froms tos : List Col) (b : Bd) (rho : Fr) : List (Leg × Leg) := (coupl (legsS froms tos (b.wa * b.wa))).filter fun p => badB p.1 p.2 rho b.R
structure Lot (s : Int) (cs : List Col) : Prop where
  len : 0 < cs.length ∧ cs.length ≤ 8
  rng : ∀ c ∈ cs, Nr 6200 c
  sp : Spaced s cs
theorem Lot.perm {s : Int} {cs ds : List Col} (h : Lot s cs) (p : ds.Perm cs) : Lot s ds := ⟨by rw [p.length_eq]; exact h.len, fun c hc => h.rng c (p.mem_iff.mp hc), spaced_perm p.symm h.sp⟩
theorem lot_legs {s : Int} {cs ds : List Col} {W2 : Int} (h : Lot s cs) (g : Lot s ds) : (∀ l ∈ legsS cs ds W2, Nr 6200 l.1 ∧ Nr 6200 l.2) ∧ (legsS cs ds W2).length ≤ 64 := by
  refine ⟨fun l hl => ?_, Nat.le_trans (legsS_len cs ds W2) (Nat.mul_le_mul h.len.2 g.len.2)⟩
  obtain ⟨h1, h2, _⟩ := mem_legsS.mp hl
  exact ⟨h.rng _ h1, g.rng _ h2⟩
theorem pair_sp {s : Int} {cs : List Col} (h : Spaced s cs) {a b : Col} (ha : a ∈ cs) (hb : b ∈ cs) (hab : a ≠ b) : s * s ≤ sqD a b := by
  induction cs with
  | nil => simp at ha
  | cons c r ih =>
    obtain ⟨h1, h2⟩ := List.pairwise_cons.mp h
    rcases List.mem_cons.mp ha with ea | ha2
    · rcases List.mem_cons.mp hb with eb | hb2
      · exact absurd (ea.trans eb.symm) hab
      · rw [ea]
        exact h1 b hb2
    · rcases List.mem_cons.mp hb with eb | hb2
      · rw [sqD_comm, eb]
        exact h1 a ha2
      · exact ih h2 ha2 hb2
theorem bad_none {b : Bd} {t : Int} {cs ds : List Col} (hb : BdP b) (ht : 0 < t) (hLt : b.L ≤ t) (h : Lot b.sp cs) (g : Lot b.sp ds) (he : EnoughP b t) : badC cs ds b (lowF b.L t) = [] := by
  refine List.filter_eq_nil_iff.mpr fun p hp => ?_
  obtain ⟨h1, h2, h3⟩ := mem_coupl _ p hp
  obtain ⟨a1, a2, a3⟩ := mem_legsS.mp h1
  obtain ⟨b1, b2, b3⟩ := mem_legsS.mp h2
  unfold meets at h3
  rw [Bool.and_eq_true, Bool.and_eq_true, Bool.not_eq_true', Bool.not_eq_true', Bool.not_eq_true', decide_eq_false_iff_not, decide_eq_false_iff_not, decide_eq_false_iff_not] at h3
  rw [badB_false fun q hq => spaced_apart hb ht hLt he hq (pair_sp h.sp a1 b1 h3.1) (pair_sp g.sp a2 b2 h3.2.1) (Int.not_lt.mp h3.2.2) a3 b3]
  decide
theorem badB_mono {l m : Leg} {rho rho' : Fr} {r : Int} (hu : Un rho) (hu' : Un rho') (h : val rho ≤ val rho') {q' : Rw} (hq' : NearR l m rho' q') (hb : badB l m rho r = true) : badB l m rho' r = true := by
  unfold badB at hb
  have hb := @of_decide_eq_true _ (Classical.propDecidable _) hb
  obtain ⟨q, hq, hlt⟩ := hb
  rw [badB_of hq']
  have hf := near_fall hu hu' h hq hq'
  rw [lt_val hq.2.1.1.1 one_pos] at hlt
  rw [lt_val hq'.2.1.1.1 one_pos]
  have := of_decide_eq_true hlt
  refine decide_eq_true ?_
  grind
theorem low_le {n t u : Int} (hn : 0 ≤ n) (ht : 0 < t) (htu : t ≤ u) : val (lowF n u) ≤ val (lowF n t) := by
  have h1 := val_lowL (n := n) ht
  have h2 := val_lowL (n := n) (show 0 < u by omega)
  have t0 : (0 : Rat) < (t : Rat) := by
    have := Rat.intCast_lt_intCast.mpr ht
    simpa using this
  have tu : (t : Rat) ≤ (u : Rat) := cast_le htu
  have n0 : (0 : Rat) ≤ (n : Rat) := by
    have := cast_le hn
    simpa using this
  refine Rat.not_lt.mp fun z => ?_
  have p1 := Rat.mul_pos (show 0 < val (lowF n u) - val (lowF n t) by grind) t0
  have x0 : 0 ≤ val (lowF n u) := by
    refine Rat.not_lt.mp fun z => ?_
    have := Rat.mul_pos (show 0 < -val (lowF n u) by grind) (show 0 < (u : Rat) by grind)
    grind
  have p2 := Rat.mul_nonneg x0 (show 0 ≤ (u : Rat) - t by grind)
  grind
def sp_legsb : ASp := fun rs k => ∃ (cs ds : List Col) (y : Int), rs = [.dat (.tuple (cs.map cD)), .dat (.tuple (ds.map cD)), .dat (.int y)] ∧ (cs.length ≤ 100 ∧ ds.length ≤ 100) ∧ (∀ c ∈ cs, Bc c) ∧ (∀ c ∈ ds, Bc c) ∧ Lt 60 y ∧ k (.fresh ((legsS cs ds (y * y)).map lD))
def sp_maymeet : ASp := fun rs k => ∃ l m : Leg, rs = [.dat (lD l), .dat (lD m)] ∧ Bl l ∧ Bl m ∧ k (.dat (.bool (meets l m)))
def sp_coupb : ASp := fun rs k => ∃ (b : Bd) (cs ds : List Col), rs = [.dat (bD b), .dat (.tuple (cs.map cD)), .dat (.tuple (ds.map cD))] ∧ BdOk b ∧ Lot b.sp cs ∧ Lot b.sp ds ∧ k (.fresh ((coupl (legsS cs ds (b.wa * b.wa))).map clD))
def sp_badc : ASp := fun rs k => ∃ (b : Bd) (t : Int) (cs ds : List Col), rs = [.dat (bD b), .dat (.int t), .dat (.tuple (cs.map cD)), .dat (.tuple (ds.map cD))] ∧ BdOk b ∧ (1 ≤ t ∧ b.L ≤ t ∧ t ≤ 1000000) ∧ Lot b.sp cs ∧ Lot b.sp ds ∧ k (.fresh ((badC cs ds b (lowF b.L t)).map clD))
def sp_alllegs : ASp := fun rs k => ∃ (cs ds : List Col) (y : Int), rs = [.dat (.tuple (cs.map cD)), .dat (.tuple (ds.map cD)), .dat (.int y)] ∧ (cs.length ≤ 100 ∧ ds.length ≤ 100) ∧ cs.Nodup ∧ (∀ c ∈ cs, Bc c) ∧ (∀ c ∈ ds, Bc c) ∧ Lt 60 y ∧ k (.fresh ((legsS cs ds (y * y)).map lD))
def sp_lots : ASp := fun rs k => rs = [.bag] ∧ ∀ (b : Bd) (t : Int) (cs ds : List Col), BdOk b → (1 ≤ t ∧ b.L ≤ t ∧ t ≤ 4400) → Lot b.sp cs → Lot b.sp ds → k (.dat (.tuple [bD b, .int t, .tuple (cs.map cD), .tuple (ds.map cD)]))
theorem eqv_lD (a b : Leg) : PyData.eqv (lD a) (lD b) = decide (a = b) := eqv_pD a b
theorem laid_lD (l : Leg) : PyData.canLay0 (lD l) = true ∧ PyData.depth (lD l) ≤ 2 := laid_pD l
theorem laid_clD (p : Leg × Leg) : PyData.canLay0 (clD p) = true ∧ PyData.depth (clD p) ≤ 3 := by
  obtain ⟨h1, h2⟩ := laid_all (n := 2) [lD p.1, lD p.2] fun d hd => by
    simp only [List.mem_cons, List.not_mem_nil, or_false] at hd
    rcases hd with rfl | rfl <;> exact laid_lD _
  unfold clD
  simp only [PyData.canLay0, PyData.depth, h1, true_and]
  omega
theorem sh_clDs (ps : List (Leg × Leg)) : SeqAt.shaped (.list (ps.map clD)) = true := sh_lst 3 (by decide) fun d hd => by
  obtain ⟨c, _, rfl⟩ := List.mem_map.mp hd
  exact laid_clD c
theorem sh_clD (p : Leg × Leg) : SeqAt.shaped (clD p) = true := by
  obtain ⟨h1, h2⟩ := laid_clD p
  unfold SeqAt.shaped
  rw [h1, Bool.true_and]
  exact decide_eq_true (by omega)
theorem small_clD {p : Leg × Leg} {n : Int} (h : (Nr n p.1.1 ∧ Nr n p.1.2) ∧ (Nr n p.2.1 ∧ Nr n p.2.2)) (hn : n < 1000000) : Small 113 3 (clD p) := by
  refine (small_tup (L := 53) (D := 2) 2 (by simp) fun x hx => ?_).mono (by decide) (by decide)
  simp only [List.mem_cons, List.not_mem_nil, or_false] at hx
  rcases hx with rfl | rfl
  · exact small_lD h.1 hn
  · exact small_lD h.2 hn
theorem eqv_clD_self (p : Leg × Leg) : PyData.eqv (clD p) (clD p) = true := SeqAt.eqv_refl _ (SeqAt.canLay_of_shaped (sh_clD p))
theorem coupl_rng {s : Int} {cs ds : List Col} {W2 : Int} (h : Lot s cs) (g : Lot s ds) : ∀ p ∈ coupl (legsS cs ds W2), (Nr 6200 p.1.1 ∧ Nr 6200 p.1.2) ∧ (Nr 6200 p.2.1 ∧ Nr 6200 p.2.2) := fun p hp => by
  obtain ⟨h1, h2, _⟩ := mem_coupl _ p hp
  exact ⟨(lot_legs h g).1 _ h1, (lot_legs h g).1 _ h2⟩
theorem coupl_many {s : Int} {cs ds : List Col} {W2 : Int} (h : Lot s cs) (g : Lot s ds) : (coupl (legsS cs ds W2)).length ≤ 4096 := by
  have h1 := coupl_len (legsS cs ds W2)
  have h2 := (lot_legs (W2 := W2) h g).2
  exact Nat.le_trans h1 (Nat.mul_le_mul h2 h2)
/-- a comprehension that keeps some, and what is known of each afterwards -/
theorem lc_filtg {K : PySem.W.Frag} {δ : List Slot} {k : Res → Prop} {te : TE} {g : TG} {tt : TT} {vs : List Nat} {β : Type} (xs : List β) (keep : β → Bool) (G : β → Prop) (enc out : β → PyData) (hz : xs.length ≤ 1000000)
    (h : ∀ x ∈ xs, GE K g (.dat (enc x)) (wipeS δ vs) (fun j => j ∈ vs) fun δ' => EvT K tt δ' fun b => (G x ∧ b = keep x) ∧ (keep x = true → EvC K te δ' fun r => r = .dat (out x)))
    (hk : (∀ x ∈ xs, G x) → k (.fresh ((xs.filter keep).map out))) : LcP K (xs.map enc) g tt te vs δ k := by
  refine ⟨fun i acc => acc = ((xs.take i).filter keep).map out ∧ ∀ x ∈ xs.take i, G x, ⟨rfl, fun x hx => by simp at hx⟩, by simpa using hz, fun i d acc hd ha => ?_, fun o ho => ?_⟩
  · obtain ⟨ha, hg⟩ := ha
    subst ha
    rw [List.getElem?_map] at hd
    obtain ⟨x, hx, rfl⟩ := Option.map_eq_some_iff.mp hd
    have hg' : G x → ∀ y ∈ xs.take (i + 1), G y := fun gx y hy => by
      rw [List.take_add_one, hx] at hy
      rcases List.mem_append.mp hy with hy | hy
      · exact hg y hy
      · rw [Option.toList_some, List.mem_singleton] at hy
        exact hy ▸ gx
    refine (h x (List.mem_of_getElem? hx)).imp fun δ' ev => ev.imp fun b ⟨⟨gx, hb⟩, he⟩ => ⟨fun e => (he (hb ▸ e)).imp fun r hr => ⟨_, hr, ?_, hg' gx⟩, fun e => ⟨?_, hg' gx⟩⟩
    · show _ = List.map out (List.filter keep (xs.take (i + 1)))
      rw [List.take_add_one, hx, List.filter_append, List.map_append]
      have : keep x = true := hb ▸ e
      simp [this]
    · show _ = List.map out (List.filter keep (xs.take (i + 1)))
      rw [List.take_add_one, hx, List.filter_append, List.map_append]
      have : keep x = false := hb ▸ e
      simp [this]
  · obtain ⟨ho, hg⟩ := ho
    subst ho
    rw [List.length_map, List.take_length] at *
    exact hk hg
theorem ixcl0 {p : Leg × Leg} {k : Res → Prop} (g : k (.dat (lD p.1))) : IxQ (.dat (clD p)) (.dat (.int 0)) k := ixq_tup (atI_nat (j := 0) rfl) g
theorem ixcl1 {p : Leg × Leg} {k : Res → Prop} (g : k (.dat (lD p.2))) : IxQ (.dat (clD p)) (.dat (.int 1)) k := ixq_tup (atI_nat (j := 1) rfl) g
theorem tells_cls {ps : List (Leg × Leg)} (hl : ps.length ≤ 4096) (h : ∀ p ∈ ps, (Nr 6200 p.1.1 ∧ Nr 6200 p.1.2) ∧ (Nr 6200 p.2.1 ∧ Nr 6200 p.2.2)) : Tells (.list (ps.map clD)) := (small_lst (L := 113) (D := 3) 4096 (by rw [List.length_map]; exact hl) fun x hx => by
  obtain ⟨p, hp, rfl⟩ := List.mem_map.mp hx
  exact small_clD (h p hp) (by decide)).tells (by decide) (by decide)
end My

/-! plain law of rows: barred rows are those whose last lamp is too near -/
namespace RowLaw
def fr (s x : Int) (last : List Int) : List Nat := (List.range last.length).filter fun i => decide (s ≤ x - last.getD i 0)
def rowFor (s x : Int) (last : List Int) : Nat := ((fr s x last).head?).getD last.length
def lastTo (s x : Int) (last : List Int) : List Int := last.take (rowFor s x last) ++ [x] ++ last.drop (rowFor s x last + 1)
structure RI (xs last : List Int) (found : List Nat) : Prop where
  len : found.length = xs.length
  few : last.length ≤ xs.length
  low : ∀ k : Nat, k < xs.length → found.getD k 0 < last.length ∧ xs.getD k 0 ≤ last.getD (found.getD k 0) 0
  hit : ∀ r : Nat, r < last.length → ∃ k : Nat, k < xs.length ∧ found.getD k 0 = r ∧ xs.getD k 0 = last.getD r 0
theorem ri_nil : RI [] [] [] := ⟨rfl, Nat.le_refl _, fun k h => by simp at h, fun r h => by simp at h⟩
/-- the rows that the earlier lamps bar -/
theorem barred {xs last : List Int} {found : List Nat} (h : RI xs last found) (s x : Int) (r : Nat) :
    (∃ k : Nat, k < xs.length ∧ found.getD k 0 = r ∧ x - xs.getD k 0 < s) ↔ (r < last.length ∧ x - last.getD r 0 < s) := by
  constructor
  · rintro ⟨k, hk, rfl, hx⟩
    obtain ⟨h1, h2⟩ := h.low k hk
    exact ⟨h1, by omega⟩
  · rintro ⟨hr, hx⟩
    obtain ⟨k, hk, h1, h2⟩ := h.hit r hr
    exact ⟨k, hk, h1, by omega⟩
theorem rowFor_le (s x : Int) (last : List Int) : rowFor s x last ≤ last.length := by
  unfold rowFor
  cases h : fr s x last with
  | nil => simp
  | cons r rest =>
    have : r ∈ fr s x last := by rw [h]; simp
    unfold fr at this
    have := List.mem_range.mp (List.mem_filter.mp this).1
    simp
    omega
theorem getD_append {α : Type} (a b : List α) (k : Nat) (d : α) : (a ++ b).getD k d = if k < a.length then a.getD k d else b.getD (k - a.length) d := by
  rw [List.getD_eq_getElem?_getD, List.getElem?_append]
  split <;> rw [List.getD_eq_getElem?_getD]
theorem lastTo_getD (s x : Int) (last : List Int) (r : Nat) : (lastTo s x last).getD r 0 = if r = rowFor s x last then x else last.getD r 0 := by
  have hl := rowFor_le s x last
  unfold lastTo
  generalize rowFor s x last = m at *
  rw [getD_append, getD_append]
  simp only [List.length_append, List.length_take, List.length_cons, List.length_nil]
  rw [Nat.min_eq_left hl]
  by_cases h1 : r < m
  · rw [if_pos (by omega), if_pos h1, if_neg (by omega), List.getD_eq_getElem?_getD, List.getElem?_take_of_lt h1, List.getD_eq_getElem?_getD]
  · by_cases h2 : r = m
    · subst h2
      rw [if_pos (by omega), if_neg (by omega), if_pos rfl, Nat.sub_self]
      rfl
    · rw [if_neg (by omega), if_neg h2, List.getD_eq_getElem?_getD, List.getElem?_drop, List.getD_eq_getElem?_getD]
      congr 2
      omega
theorem lastTo_len (s x : Int) (last : List Int) : (lastTo s x last).length = max last.length (rowFor s x last + 1) := by
  have hl := rowFor_le s x last
  unfold lastTo
  simp only [List.length_append, List.length_take, List.length_drop, List.length_cons, List.length_nil]
  omega
theorem ri_step {xs last : List Int} {found : List Nat} (h : RI xs last found) (s x : Int) (hx : ∀ k : Nat, k < xs.length → xs.getD k 0 ≤ x) : RI (xs ++ [x]) (lastTo s x last) (found ++ [rowFor s x last]) := by
  have hl := rowFor_le s x last
  have ll := lastTo_len s x last
  have hlen := h.len
  have hfew := h.few
  refine ⟨by simp [h.len], by rw [ll, List.length_append]; simp only [List.length_cons, List.length_nil]; omega, fun k hk => ?_, fun r hr => ?_⟩
  · simp only [List.length_append, List.length_cons, List.length_nil] at hk
    rw [getD_append, getD_append, lastTo_getD, ll, hlen]
    by_cases hk2 : k < xs.length
    · rw [if_pos hk2, if_pos hk2]
      obtain ⟨h1, h2⟩ := h.low k hk2
      have := hx k hk2
      refine ⟨by omega, ?_⟩
      split <;> omega
    · have : k = xs.length := by omega
      subst this
      rw [if_neg (by omega), if_neg (by omega), Nat.sub_self]
      have e : ([rowFor s x last] : List Nat).getD 0 0 = rowFor s x last := rfl
      have e2 : ([x] : List Int).getD 0 0 = x := rfl
      rw [e, e2, if_pos rfl]
      exact ⟨by omega, Int.le_refl _⟩
  · rw [ll] at hr
    by_cases hrr : r = rowFor s x last
    · refine ⟨xs.length, by simp, ?_, ?_⟩
      · rw [getD_append, hlen, if_neg (by omega), Nat.sub_self, hrr]
        rfl
      · rw [getD_append, if_neg (by omega), Nat.sub_self, lastTo_getD, if_pos hrr]
        rfl
    · obtain ⟨k, hk, h1, h2⟩ := h.hit r (by omega)
      refine ⟨k, by simp; omega, ?_, ?_⟩
      · rw [getD_append, hlen, if_pos hk]
        exact h1
      · rw [getD_append, if_pos hk, lastTo_getD, if_neg hrr]
        exact h2
/-- the least row that is not barred is the row told -/
theorem pick {last : List Int} {s x : Int} {n : Nat} (hn : last.length ≤ n) (p : Nat → Bool) (hp : ∀ r, p r = true ↔ ¬ (r < last.length ∧ x - last.getD r 0 < s)) : ((List.range (n + 1)).filter p).head? = some (rowFor s x last) := by
  rw [List.head?_filter, List.find?_range_eq_some]
  have hl := rowFor_le s x last
  have key : ∀ j, j < rowFor s x last → j < last.length ∧ x - last.getD j 0 < s := by
    intro j hj
    refine ⟨by omega, Int.not_le.mp fun hc => ?_⟩
    have hm : j ∈ fr s x last := List.mem_filter.mpr ⟨List.mem_range.mpr (by omega), decide_eq_true (by omega)⟩
    unfold rowFor at hj
    cases hf : fr s x last with
    | nil => rw [hf] at hm; cases hm
    | cons m rest =>
      rw [hf] at hj hm
      have hj2 : j < m := hj
      have pw : (fr s x last).Pairwise (· < ·) := List.Pairwise.filter _ List.pairwise_lt_range
      rw [hf] at pw
      rcases List.mem_cons.mp hm with e | e
      · omega
      · have := (List.pairwise_cons.mp pw).1 j e
        omega
  refine ⟨(hp _).mpr fun h => ?_, List.mem_range.mpr (by omega), fun j hj => ?_⟩
  · obtain ⟨h1, h2⟩ := h
    unfold rowFor at h1 h2
    cases hf : fr s x last with
    | nil =>
      rw [hf] at h1
      exact absurd h1 (Nat.lt_irrefl _)
    | cons m rest =>
      rw [hf] at h2
      have hm : m ∈ fr s x last := by rw [hf]; simp
      have := of_decide_eq_true (List.mem_filter.mp hm).2
      have h3 : x - last.getD m 0 < s := h2
      omega
  · have h := key j hj
    cases hpj : p j with
    | false => rfl
    | true => exact absurd h ((hp j).mp hpj)
end RowLaw

namespace My
variable [Dl.LamT]
open PySem PySem.Spec L2 Dl
open Frac RowLaw
/-! ## lamps, pictures, rows, seats -/
structure Lamp where
  x : Int
  z : Int
  sh : PyData
  wt : Int
def lampD (l : Lamp) : PyData := .tuple [.int l.x, .int l.z, l.sh, .int l.wt]
def picD (ps : List Lamp) : PyData := .tuple (ps.map lampD)
def rowSt (s : Int) (xs : List Int) : List Int × List Nat := xs.foldl (fun a x => (lastTo s x a.1, a.2 ++ [rowFor s x a.1])) ([], [])
def rowsOf (s : Int) (xs : List Int) : List Nat := (rowSt s xs).2
theorem rowSt_snoc (s : Int) (xs : List Int) (x : Int) : rowSt s (xs ++ [x]) = (lastTo s x (rowSt s xs).1, (rowSt s xs).2 ++ [rowFor s x (rowSt s xs).1]) := by
  unfold rowSt
  rw [List.foldl_append]
  rfl
def natD (r : Nat) : PyData := .int (r : Nat)
def RS (s : Int) (xs : List Int) (fs : List Nat) : Prop := ∃ last, rowSt s xs = (last, fs) ∧ RI xs last fs
theorem rs_step {s : Int} {xs : List Int} {fs : List Nat} (x : Int) (hx : ∀ k : Nat, k < xs.length → xs.getD k 0 ≤ x) (h : RS s xs fs) : ∃ r : Nat, RS s (xs ++ [x]) (fs ++ [r]) ∧
    ∀ p : Nat → Bool, (∀ j, p j = true ↔ ¬ ∃ k : Nat, k < xs.length ∧ fs.getD k 0 = j ∧ x - xs.getD k 0 < s) → ((List.range (xs.length + 1)).filter p).head? = some r := by
  obtain ⟨last, h1, h2⟩ := h
  refine ⟨rowFor s x last, ⟨lastTo s x last, by rw [rowSt_snoc, h1], ri_step h2 s x hx⟩, fun p hp => pick h2.few p fun j => ?_⟩
  rw [hp j, barred h2]
def seatD (s : Int) (ps : List Lamp) (i : Nat) : PyData := .tuple [.int ((ps.map (·.x)).getD i 0), .int ((((rowsOf s (ps.map (·.x))).getD i 0 : Nat) : Int) * s)]
theorem rows_len (s : Int) (xs : List Int) : (rowsOf s xs).length = xs.length := by
  have h : ∀ (xs : List Int) (a : List Int × List Nat), (xs.foldl (fun a x => (lastTo s x a.1, a.2 ++ [rowFor s x a.1])) a).2.length = a.2.length + xs.length := by
    intro xs
    induction xs with
    | nil => intro a; simp
    | cons x r ih =>
      intro a
      rw [List.foldl_cons, ih]
      simp only [List.length_append, List.length_cons, List.length_nil]
      omega
  unfold rowsOf rowSt
  rw [h]
  simp
def seatC (s : Int) (ps : List Lamp) (i : Nat) : Col := ((ps.map (·.x)).getD i 0, (((rowsOf s (ps.map (·.x))).getD i 0 : Nat) : Int) * s)
def seatsC (s : Int) (ps : List Lamp) : List Col := (List.range ps.length).map (seatC s ps)
theorem seatsC_d (s : Int) (ps : List Lamp) : (List.range ps.length).map (seatD s ps) = (seatsC s ps).map cD := by
  unfold seatsC
  rw [List.map_map]
  rfl
theorem seatsC_len (s : Int) (ps : List Lamp) : (seatsC s ps).length = ps.length := by unfold seatsC; rw [List.length_map, List.length_range]
theorem rows_apart (s : Int) (xs : List Int) (hw : xs.Pairwise (· ≤ ·)) : ∀ n, n ≤ xs.length → ∃ fs, RS s (xs.take n) fs ∧ ∀ k j : Nat, k < j → j < n → fs.getD k 0 = fs.getD j 0 → s ≤ xs.getD j 0 - xs.getD k 0
  | 0, _ => ⟨[], ⟨[], rfl, ri_nil⟩, fun k j _ h => absurd h (Nat.not_lt_zero j)⟩
  | n + 1, hn => by
    obtain ⟨fs, h1, h2⟩ := rows_apart s xs hw n (by omega)
    have hl : (xs.take n).length = n := by rw [List.length_take]; omega
    have fl : fs.length = n := by
      obtain ⟨_, _, z⟩ := h1
      rw [z.len, hl]
    have tk : ∀ k : Nat, k < n → (xs.take n).getD k 0 = xs.getD k 0 := fun k hk => by rw [List.getD_eq_getElem?_getD, List.getElem?_take_of_lt hk, List.getD_eq_getElem?_getD]
    have nx : xs.take (n + 1) = xs.take n ++ [xs.getD n 0] := by
      rw [List.take_add_one, List.getD_eq_getElem?_getD, List.getElem?_eq_getElem (by omega)]
      rfl
    have asc : ∀ k : Nat, k < (xs.take n).length → (xs.take n).getD k 0 ≤ xs.getD n 0 := fun k hk => by
      rw [hl] at hk
      rw [tk k hk, List.getD_eq_getElem?_getD, List.getD_eq_getElem?_getD, List.getElem?_eq_getElem (by omega), List.getElem?_eq_getElem (show n < xs.length by omega)]
      exact List.pairwise_iff_getElem.mp hw k n (by omega) (by omega) hk
    obtain ⟨r, r1, r2⟩ := rs_step (xs.getD n 0) asc h1
    refine ⟨fs ++ [r], by rw [nx]; exact r1, fun k j hkj hj e => ?_⟩
    have gl : ∀ q : Nat, q < n → (fs ++ [r]).getD q 0 = fs.getD q 0 := fun q hq => by rw [getD_append, if_pos (by omega)]
    by_cases hjn : j < n
    · rw [gl k (by omega), gl j hjn] at e
      exact h2 k j hkj hjn e
    · have ej : j = n := by omega
      subst ej
      have gr : (fs ++ [r]).getD j 0 = r := by
        rw [getD_append, if_neg (by omega), fl, Nat.sub_self]
        rfl
      rw [gl k hkj, gr] at e
      have hd := r2 (fun q => decide (¬ ∃ k : Nat, k < (xs.take j).length ∧ fs.getD k 0 = q ∧ xs.getD j 0 - (xs.take j).getD k 0 < s)) fun q => by rw [decide_eq_true_eq]
      have hm := List.mem_filter.mp (List.mem_of_mem_head? hd)
      have hno := of_decide_eq_true hm.2
      refine Int.not_lt.mp fun hlt => hno ⟨k, by rw [hl]; exact hkj, e, ?_⟩
      rw [tk k hkj]
      exact hlt

/-! ## shows -/
structure Scene where
  ticks : Int
  hold : Int
  pic : List Lamp
def sceneD (s : Scene) : PyData := .tuple [.int s.ticks, .int s.hold, picD s.pic]
structure Show where
  b : Bd
  pads : List Col
  full : Int
  holding : Int
  flying : Int
  scenes : List Scene
def chargeD (S : Show) : PyData := .tuple [.int S.full, .int S.holding, .int S.flying]
def showD (S : Show) : PyData := .tuple [bD S.b, .tuple (S.pads.map cD), chargeD S, .tuple (S.scenes.map sceneD)]
def wordsD (ws : List Str) : PyData := .tuple (ws.map .str)
def shades : List PyData := [wordsD ["red"], wordsD ["red", "blue"], wordsD ["gold", "gold"], wordsD ["blue", "red", "dark"]]
def lcol (l : Lamp) : Col := (l.x, l.z)
structure LampOk (l : Lamp) : Prop where
  x : 0 ≤ l.x ∧ l.x ≤ 60
  z : 0 ≤ l.z ∧ l.z ≤ 3
  sh : l.sh ∈ shades
  wt : 0 ≤ l.wt ∧ l.wt ≤ 3
def ltC (a b : Col) : Prop := a.1 < b.1 ∨ (a.1 = b.1 ∧ a.2 < b.2)
structure PicOk (ps : List Lamp) : Prop where
  few : ps.length ≤ 6
  asc : ps.Pairwise fun l m => ltC (lcol l) (lcol m)
  ok : ∀ l ∈ ps, LampOk l
theorem PicOk.up {ps : List Lamp} (h : PicOk ps) : (ps.map (·.x)).Pairwise (· ≤ ·) := by
  refine List.pairwise_map.mpr (h.asc.imp fun {l m} q => ?_)
  have q : l.x < m.x ∨ (l.x = m.x ∧ l.z < m.z) := q
  omega
structure SceneOk (b : Bd) (s : Scene) : Prop where
  ticks : 1 ≤ s.ticks ∧ b.L ≤ s.ticks ∧ s.ticks ≤ 20000
  hold : 0 ≤ s.hold ∧ s.hold ≤ 100
  pic : PicOk s.pic
structure ShowOk (S : Show) : Prop where
  b : BdOk S.b
  pads0 : 0 < S.pads.length
  pads1 : S.pads.length ≤ 5
  pads : ∀ c ∈ S.pads, (0 ≤ c.1 ∧ c.1 ≤ 1000) ∧ (0 ≤ c.2 ∧ c.2 ≤ 1000)
  full : 0 ≤ S.full ∧ S.full ≤ 1000000
  holding : 0 ≤ S.holding ∧ S.holding ≤ 10
  flying : 0 ≤ S.flying ∧ S.flying ≤ 10
  scenes0 : 0 < S.scenes.length
  scenes1 : S.scenes.length ≤ 3
  scenes : ∀ s ∈ S.scenes, SceneOk S.b s
def Bd.need (b : Bd) : Int := b.L + b.cl + 2 * b.si + b.cu
/-! ## times -/
structure Row4 where
  op : Int
  le : Int
  ar : Int
  en : Int
def rowT (r : Row4) : PyData := .tuple [.int r.op, .int r.le, .int r.ar, .int r.en]
/-- from opens, leaves on -/
def timesF : Int → Int → List Scene → List Row4
  | _, _, [] => []
  | o, l, s :: r => ⟨o, l, l + s.ticks, l + s.ticks + s.hold⟩ :: timesF (l + s.ticks) (l + s.ticks + s.hold) r
def timesS (S : Show) : List Row4 := timesF 0 S.b.need S.scenes
def chargeF (holding flying : Int) (s : Scene) : Int := s.hold * holding + s.ticks * (if holding > flying then holding else flying)
def needF (S : Show) : Int := (S.scenes.map (chargeF S.holding S.flying)).sum
/-! ## specs -/
def sp_rows : ASp := fun rs k => ∃ (ps : List Lamp) (s : Int), rs = [.dat (.tuple (ps.map lampD)), .dat (.int s)] ∧ ps.length ≤ 20 ∧ k (.dat (.tuple ((rowsOf s (ps.map (·.x))).map natD)))
def sp_seats : ASp := fun rs k => ∃ (ps : List Lamp) (s : Int), rs = [.dat (.tuple (ps.map lampD)), .dat (.int s)] ∧ ps.length ≤ 20 ∧ (-1000000 < s ∧ s < 1000000) ∧ k (.dat (.tuple ((seatsC s ps).map cD)))
def sp_lrows : ASp := fun rs k => ∃ (x : Res) (ps : List Lamp) (s : Int), rs = [x, .dat (.int s)] ∧ (x = .bor (ps.map lampD) ∨ x = .dat (.tuple (ps.map lampD))) ∧ ps.length ≤ 20 ∧ (ps.map (·.x)).Pairwise (· ≤ ·) ∧ k (.fresh ((rowsOf s (ps.map (·.x))).map natD))
def sp_lseats : ASp := fun rs k => ∃ (ps : List Lamp) (s : Int), rs = [.dat (.tuple (ps.map lampD)), .dat (.int s)] ∧ ps.length ≤ 20 ∧ (-1000000 < s ∧ s < 1000000) ∧ (ps.map (·.x)).Pairwise (· ≤ ·) ∧ k (.fresh ((seatsC s ps).map cD))
def sp_need : ASp := fun rs k => ∃ b : Bd, rs = [.dat (bD b)] ∧ k (.dat (.int b.need))
def sp_times : ASp := fun rs k => ∃ S : Show, rs = [.dat (showD S)] ∧ S.scenes.length ≤ 3 ∧ k (.dat (.tuple ((timesS S).map rowT)))
def sp_ltimes : ASp := fun rs k => ∃ S : Show, rs = [.dat (showD S)] ∧ S.scenes.length ≤ 3 ∧ k (.fresh ((timesS S).map rowT))
def writeF (S : Show) (r : Row4) : Int := r.le - S.b.L - S.b.cl - S.b.si - S.b.cu
def sp_writing : ASp := fun rs k => ∃ (S : Show) (i : Nat) (r : Row4), rs = [.dat (showD S), .dat (.int (i : Nat))] ∧ S.scenes.length ≤ 3 ∧ (timesS S)[i]? = some r ∧ k (.dat (.int (writeF S r)))
def sp_charge : ASp := fun rs k => ∃ S : Show, rs = [.dat (showD S)] ∧ ShowOk S ∧ k (.dat (.int (needF S)))
/-- where one may stand: the pads, and the seats of a scene -/
def standL (S : Show) (i : Int) : List Col := S.pads ++ (if 0 ≤ i then match S.scenes[i.toNat]? with | some s => seatsC S.b.sp s.pic | none => [] else [])
def StandIs (S : Show) (i : Int) (cs : List Col) : Prop := cs.length < 64 ∧ cs.Nodup ∧ (∀ c, c ∈ cs ↔ c ∈ standL S i) ∧ cs.Pairwise fun a b => leC a b = true
def sp_stands : ASp := fun rs k => ∃ (S : Show) (i : Int), rs = [.dat (showD S), .dat (.int i)] ∧ ShowOk S ∧ (-1 ≤ i ∧ i < S.scenes.length) ∧ ∀ cs, StandIs S i cs → k (.dat (.tuple (cs.map cD)))

theorem bix6 {b : Bd} {k : Res → Prop} (g : k (.dat (.int b.si))) : IxQ (.dat (bD b)) (.dat (.int 6)) k := bix (j := 6) rfl g
theorem bix7 {b : Bd} {k : Res → Prop} (g : k (.dat (.int b.cu))) : IxQ (.dat (bD b)) (.dat (.int 7)) k := bix (j := 7) rfl g
theorem bix8 {b : Bd} {k : Res → Prop} (g : k (.dat (.int b.de))) : IxQ (.dat (bD b)) (.dat (.int 8)) k := bix (j := 8) rfl g
theorem six0 {S : Show} {k : Res → Prop} (g : k (.dat (bD S.b))) : IxQ (.dat (showD S)) (.dat (.int 0)) k := ixq_tup (atI_nat (j := 0) rfl) g
theorem six1 {S : Show} {k : Res → Prop} (g : k (.dat (.tuple (S.pads.map cD)))) : IxQ (.dat (showD S)) (.dat (.int 1)) k := ixq_tup (atI_nat (j := 1) rfl) g
theorem six2 {S : Show} {k : Res → Prop} (g : k (.dat (.tuple [.int S.full, .int S.holding, .int S.flying]))) : IxQ (.dat (showD S)) (.dat (.int 2)) k := ixq_tup (atI_nat (j := 2) rfl) g
theorem six3 {S : Show} {k : Res → Prop} (g : k (.dat (.tuple (S.scenes.map sceneD)))) : IxQ (.dat (showD S)) (.dat (.int 3)) k := ixq_tup (atI_nat (j := 3) rfl) g
theorem cix0 {s : Scene} {k : Res → Prop} (g : k (.dat (.int s.ticks))) : IxQ (.dat (sceneD s)) (.dat (.int 0)) k := ixq_tup (atI_nat (j := 0) rfl) g
theorem cix1 {s : Scene} {k : Res → Prop} (g : k (.dat (.int s.hold))) : IxQ (.dat (sceneD s)) (.dat (.int 1)) k := ixq_tup (atI_nat (j := 1) rfl) g
theorem cix2 {s : Scene} {k : Res → Prop} (g : k (.dat (.tuple (s.pic.map lampD)))) : IxQ (.dat (sceneD s)) (.dat (.int 2)) k := ixq_tup (atI_nat (j := 2) rfl) g
theorem rix0 {r : Row4} {k : Res → Prop} (g : k (.dat (.int r.op))) : IxQ (.dat (rowT r)) (.dat (.int 0)) k := ixq_tup (atI_nat (j := 0) rfl) g
theorem rix1 {r : Row4} {k : Res → Prop} (g : k (.dat (.int r.le))) : IxQ (.dat (rowT r)) (.dat (.int 1)) k := ixq_tup (atI_nat (j := 1) rfl) g
theorem rix2 {r : Row4} {k : Res → Prop} (g : k (.dat (.int r.ar))) : IxQ (.dat (rowT r)) (.dat (.int 2)) k := ixq_tup (atI_nat (j := 2) rfl) g
theorem rix3 {r : Row4} {k : Res → Prop} (g : k (.dat (.int r.en))) : IxQ (.dat (rowT r)) (.dat (.int 3)) k := ixq_tup (atI_nat (j := 3) rfl) g
theorem lix0 {l : Lamp} {k : Res → Prop} (g : k (.dat (.int l.x))) : IxQ (.dat (lampD l)) (.dat (.int 0)) k := ixq_tup (atI_nat (j := 0) rfl) g
theorem lix1 {l : Lamp} {k : Res → Prop} (g : k (.dat (.int l.z))) : IxQ (.dat (lampD l)) (.dat (.int 1)) k := ixq_tup (atI_nat (j := 1) rfl) g
theorem lix2 {l : Lamp} {k : Res → Prop} (g : k (.dat l.sh)) : IxQ (.dat (lampD l)) (.dat (.int 2)) k := ixq_tup (atI_nat (j := 2) rfl) g
theorem lix3 {l : Lamp} {k : Res → Prop} (g : k (.dat (.int l.wt))) : IxQ (.dat (lampD l)) (.dat (.int 3)) k := ixq_tup (atI_nat (j := 3) rfl) g
theorem times_snoc : ∀ (pre : List Scene) (o l : Int) (s : Scene), ∃ o' l', timesF o l (pre ++ [s]) = timesF o l pre ++ timesF o' l' [s] ∧ ∀ post, timesF o l (pre ++ post) = timesF o l pre ++ timesF o' l' post
  | [], o, l, s => ⟨o, l, rfl, fun _ => rfl⟩
  | p :: pre, o, l, s => by
    obtain ⟨o', l', h1, h2⟩ := times_snoc pre (l + p.ticks) (l + p.ticks + p.hold) s
    exact ⟨o', l', by show _ :: timesF _ _ (pre ++ [s]) = _; rw [h1]; rfl, fun post => by show _ :: timesF _ _ (pre ++ post) = _; rw [h2]; rfl⟩
theorem times_len : ∀ (xs : List Scene) (o l : Int), (timesF o l xs).length = xs.length
  | [], _, _ => rfl
  | x :: xs, o, l => by show (_ :: timesF _ _ xs).length = _; rw [List.length_cons, times_len xs, List.length_cons]
/-- where the loop stands behind pre -/
def atF : Int → Int → List Scene → Int × Int
  | o, l, [] => (o, l)
  | _, l, s :: r => atF (l + s.ticks) (l + s.ticks + s.hold) r
theorem at_snoc : ∀ (pre : List Scene) (o l : Int) (s : Scene), atF o l (pre ++ [s]) = ((atF o l pre).2 + s.ticks, (atF o l pre).2 + s.ticks + s.hold)
  | [], _, _, _ => rfl
  | p :: pre, o, l, s => at_snoc pre (l + p.ticks) (l + p.ticks + p.hold) s
theorem times_at : ∀ (pre : List Scene) (o l : Int) (s : Scene), timesF o l (pre ++ [s]) = timesF o l pre ++ [⟨(atF o l pre).1, (atF o l pre).2, (atF o l pre).2 + s.ticks, (atF o l pre).2 + s.ticks + s.hold⟩]
  | [], _, _, _ => rfl
  | p :: pre, o, l, s => by
    show _ :: timesF _ _ (pre ++ [s]) = _ :: timesF _ _ pre ++ _
    rw [times_at pre]
    rfl
end My

namespace My
variable [Dl.LamT]
open PySem PySem.Spec L2 Dl
open Frac RowLaw
/-! ## dicts whose keys are columns -/
def colK (c : Col) : List Key := [.inl c.1, .inl c.2]
theorem colK_inj {a b : Col} (h : colK a = colK b) : a = b := by
  unfold colK at h
  injection h with h1 h2
  injection h2 with h3 _
  injection h1 with h1
  injection h3 with h3
  exact Prod.ext h1 h3
def colKP (p : Col × PyData) : List Key × PyData := (colK p.1, p.2)
/-- a dict of columns, in its order -/
def cdD (kds : List (Col × PyData)) : List (PyData × PyData) := kds.map fun p => (cD p.1, p.2)
theorem cdD_tv (kds : List (Col × PyData)) : cdD kds = tvD (kds.map colKP) := by
  unfold cdD tvD
  rw [List.map_map]
  rfl
theorem cdD_keys (kds : List (Col × PyData)) : (cdD kds).map (·.1) = (kds.map (·.1)).map cD := by
  unfold cdD
  rw [List.map_map, List.map_map]
  rfl
theorem look_col (c : Col) : ∀ kds : List (Col × PyData), lookG (kds.map colKP) (colK c) = lookG kds c
  | [] => rfl
  | p :: r => by
    rw [List.map_cons]
    by_cases h : p.1 = c
    · rw [lookG_pos (p := p) h, lookG_pos (p := colKP p) (show colK p.1 = colK c by rw [h])]
      rfl
    · rw [lookG_neg (p := p) h, lookG_neg (p := colKP p) (fun e => h (colK_inj e)), look_col c r]
theorem put_colK (c : Col) (v : PyData) (kds : List (Col × PyData)) : putG (kds.map colKP) (colK c) v = (putG kds c v).map colKP := by
  unfold putG
  have e : ((kds.map colKP).any fun p => decide (p.1 = colK c)) = (kds.any fun p => decide (p.1 = c)) := by
    rw [lookG_any, lookG_any, look_col]
  rw [e]
  split
  · rw [List.map_map, List.map_map]
    refine List.map_congr_left fun p _ => ?_
    show (if colK p.1 = colK c then (colK p.1, v) else colKP p) = colKP (if p.1 = c then (p.1, v) else p)
    by_cases h : p.1 = c
    · rw [if_pos h, if_pos (by rw [h])]
      rfl
    · rw [if_neg h, if_neg fun e => h (colK_inj e)]
  · rw [List.map_append]
    rfl
theorem put_c (hst : LamT.st = false) (kds : List (Col × PyData)) (c : Col) (v : PyData) (hl : kds.length < 1000000) : PutR true (cdD kds) (cD c) v (cdD (putG kds c v)) := by
  rw [cdD_tv, cdD_tv, ← put_colK]
  refine .t (kds.map colKP) (colK c) v hst (fun z => ?_) (by rw [List.length_map]; exact hl)
  have e : (colK c).map kV = [.int c.1, .int c.2] := rfl
  rw [e] at z
  exact z.elim
theorem key_c (kds : List (Col × PyData)) (c : Col) : KeyR true (cdD kds) (cD c) (lookG kds c) := by
  rw [cdD_tv, ← look_col]
  exact .t (kds.map colKP) (colK c)
/-- d[(x, z)] = v -/
theorem gs_subC {K : PySem.W.Frag} {δ : List Slot} {i : Nat} {ta : TA} {d : PyData} {kds : List (Col × PyData)} {k : List Slot → Prop} (hi : δ[i]? = some (.ownD true (cdD kds))) (hl : kds.length < 1000000) (h : EvA K ta δ fun rs => ∃ c : Col, dats rs = some [.int c.1, .int c.2] ∧ k (δ.set i (.ownD true (cdD (putG kds c d))))) : GS K (gSub (tVar i) (tTup ta) rSetA) (.dat d) δ k := by
  rw [cdD_tv] at hi
  refine gs_subDT hi ?_
  intro B H σ R Q q
  refine h B H σ R Q fun vs H' rs e o ⟨c, h1, h2⟩ => q vs H' rs e o ⟨colK c, h1, by show 2 ≤ 1000; decide, by rw [List.length_map]; exact hl, ?_⟩
  rw [put_colK, ← cdD_tv]
  exact h2
theorem keys_mem {kds : List (Col × PyData)} {c d : Col} {v : PyData} : d ∈ (putG kds c v).map (·.1) ↔ d ∈ kds.map (·.1) ∨ d = c := by
  rw [keys_putG]
  split
  · rename_i h
    exact ⟨.inl, fun z => z.elim id fun e => e ▸ h⟩
  · rw [List.mem_append, List.mem_singleton]
theorem nodup_perm_eq {xs ys : List Col} (h1 : xs.Nodup) (h2 : ys.Nodup) (h : ∀ c, c ∈ xs ↔ c ∈ ys) : xs.Perm ys := by
  refine List.perm_iff_count.mpr fun c => ?_
  rw [h1.count, h2.count]
  by_cases z : c ∈ xs
  · rw [if_pos z, if_pos ((h c).mp z)]
  · rw [if_neg z, if_neg fun y => z ((h c).mpr y)]
theorem sorted_eq {xs ys : List Col} (hp : xs.Perm ys) (h1 : xs.Pairwise fun a b => leC a b = true) (h2 : ys.Pairwise fun a b => leC a b = true) : xs = ys :=
  hp.eq_of_pairwise (fun _ _ _ _ x y => leC_anti x y) h1 h2
theorem stand_one {S : Show} {i : Int} {xs ys : List Col} (h : StandIs S i xs) (g : StandIs S i ys) : xs = ys :=
  sorted_eq (nodup_perm_eq h.2.1 g.2.1 fun c => (h.2.2.1 c).trans (g.2.2.1 c).symm) h.2.2.2 g.2.2.2
theorem stand_sort {S : Show} {i : Int} {cs : List Col} (h0 : cs.length < 64) (h1 : cs.Nodup) (h2 : ∀ c, c ∈ cs ↔ c ∈ standL S i) : StandIs S i (cs.mergeSort leC) := by
  have p := List.mergeSort_perm cs leC
  exact ⟨by rw [p.length_eq]; exact h0, p.nodup_iff.mpr h1, fun c => (p.mem_iff).trans (h2 c), List.pairwise_mergeSort (le := leC) (fun a b c x y => leC_trans x y) leC_tot cs⟩
theorem sort_dic {ds : List (PyData × PyData)} {cs : List Col} {t : Bool} {x : Res} {k : Res → Prop} (hx : x.dic = some (t, ds)) (h : ds.map (·.1) = cs.map cD) (g : k (.fresh ((cs.mergeSort leC).map cD))) : SortDicP [x] k :=
  .mk hx (by rw [h]; exact alike_cs cs) (by rw [h]; exact sortable_cs cs) (fun d hd => by
    rw [h] at hd
    obtain ⟨c, _, rfl⟩ := List.mem_map.mp hd
    exact Nat.le_trans (laid_fD c).2 (by decide)) (by rw [h, sort_cD]; exact g)
theorem col_tup (c : Col) : cD c = tupD [c.1, c.2] := rfl
def colOf : List Int → Col
  | [a, b] => (a, b)
  | _ => (0, 0)
/-- the sorted set of columns, out of its lists of integers -/
theorem set_cols {cs : List Col} {B : Int} {ms : List (List Int)} (hb : ∀ c ∈ cs, (0 ≤ c.1 ∧ c.1 < B) ∧ (0 ≤ c.2 ∧ c.2 < B)) (h1 : ms.Nodup) (h2 : ∀ m, m ∈ ms ↔ m ∈ cs.map fun c => [c.1, c.2]) (h3 : ms.Pairwise (fun q r => TS.code B q ≤ TS.code B r)) :
    ∃ xs : List Col, ms.map tupD = xs.map cD ∧ xs.length = ms.length ∧ xs.Nodup ∧ (∀ c, c ∈ xs ↔ c ∈ cs) ∧ xs.Pairwise fun a b => leC a b = true := by
  have two : ∀ m ∈ ms, ∃ c ∈ cs, m = [c.1, c.2] := fun m hm => by
    obtain ⟨c, hc, e⟩ := List.mem_map.mp ((h2 m).mp hm)
    exact ⟨c, hc, e.symm⟩
  have back : ∀ m ∈ ms, [(colOf m).1, (colOf m).2] = m := fun m hm => by
    obtain ⟨c, _, rfl⟩ := two m hm
    rfl
  refine ⟨ms.map colOf, ?_, List.length_map .., ?_, fun c => ?_, ?_⟩
  · rw [List.map_map]
    refine List.map_congr_left fun m hm => ?_
    show tupD m = tupD [(colOf m).1, (colOf m).2]
    rw [back m hm]
  · refine List.pairwise_map.mpr (h1.imp_of_mem fun {a b} ha hb hn e => hn ?_)
    rw [← back a ha, ← back b hb, e]
  · rw [List.mem_map]
    constructor
    · rintro ⟨m, hm, rfl⟩
      obtain ⟨c, hc, rfl⟩ := two m hm
      exact hc
    · intro hc
      exact ⟨[c.1, c.2], (h2 _).mpr (List.mem_map.mpr ⟨c, hc, rfl⟩), rfl⟩
  · refine List.pairwise_map.mpr (h3.imp_of_mem fun {a b} ha h5 hl => ?_)
    obtain ⟨c, hc, rfl⟩ := two a ha
    obtain ⟨d, hd, rfl⟩ := two b h5
    have bd : ∀ c ∈ cs, TS.Bd B [c.1, c.2] := fun c hc m hm => by
      rcases List.mem_cons.mp hm with rfl | hm
      · exact (hb c hc).1
      · rw [List.mem_singleton.mp hm]
        exact (hb c hc).2
    exact decide_eq_true (L2.code_lex (bd c hc) (bd d hd) hl)
/-! ## where they stand -/
theorem row_le (s : Int) : ∀ (xs : List Int), ∀ r ∈ rowsOf s xs, r < xs.length := by
  have h : ∀ (xs : List Int) (a : List Int × List Nat) (n : Nat), a.1.length ≤ n → (∀ r ∈ a.2, r < n) → ∀ r ∈ (xs.foldl (fun a x => (lastTo s x a.1, a.2 ++ [rowFor s x a.1])) a).2, r < n + xs.length := by
    intro xs
    induction xs with
    | nil => intro a n _ h2 r hr; exact h2 r hr
    | cons x q ih =>
      intro a n h1 h2 r hr
      have hle := rowFor_le s x a.1
      have := ih (lastTo s x a.1, a.2 ++ [rowFor s x a.1]) (n + 1) (by rw [lastTo_len]; omega) (fun z hz => by
        rcases List.mem_append.mp hz with h | h
        · have := h2 z h; omega
        · rw [List.mem_singleton.mp h]; omega) r hr
      rw [List.length_cons]
      omega
  intro xs r hr
  have := h xs ([], []) 0 (Nat.le_refl _) (by simp) r hr
  omega
theorem seat_bnd {s : Int} {ps : List Lamp} (hs : 0 ≤ s ∧ s ≤ 100) (h : PicOk ps) : ∀ c ∈ seatsC s ps, (0 ≤ c.1 ∧ c.1 ≤ 1000) ∧ (0 ≤ c.2 ∧ c.2 ≤ 1000) := by
  intro c hc
  obtain ⟨i, hi, rfl⟩ := List.mem_map.mp hc
  have hi : i < ps.length := List.mem_range.mp hi
  have h6 := h.few
  have e1 : (ps.map (·.x)).getD i 0 = ps[i].x := by
    rw [List.getD_eq_getElem?_getD, List.getElem?_map, List.getElem?_eq_getElem hi]
    rfl
  have hx := (h.ok _ (List.getElem_mem hi)).x
  have rl := rows_len s (ps.map (·.x))
  rw [List.length_map] at rl
  have hr := row_le s (ps.map (·.x)) ((rowsOf s (ps.map (·.x))).getD i 0) (by
    rw [List.getD_eq_getElem?_getD, List.getElem?_eq_getElem (by omega)]
    exact List.getElem_mem _)
  rw [List.length_map] at hr
  show (0 ≤ (ps.map (·.x)).getD i 0 ∧ (ps.map (·.x)).getD i 0 ≤ 1000) ∧ (0 ≤ (((rowsOf s (ps.map (·.x))).getD i 0 : Nat) : Int) * s ∧ (((rowsOf s (ps.map (·.x))).getD i 0 : Nat) : Int) * s ≤ 1000)
  rw [e1]
  generalize (rowsOf s (ps.map (·.x))).getD i 0 = r at *
  refine ⟨by omega, Int.mul_nonneg (by omega) hs.1, ?_⟩
  exact Int.le_trans (Int.mul_le_mul (show (r : Int) ≤ 6 by omega) hs.2 hs.1 (by decide)) (by decide)
end My

namespace My
variable [Dl.LamT]
open PySem PySem.Spec L2 Dl
open Frac RowLaw
/-! ## the drawn shows -/
structure SbOk (b : Bd) : Prop where
  ok : BdOk b
  sp : 4 ≤ b.sp ∧ b.sp ≤ 20
  ne : b.ne ≤ 14
  de : b.de ≤ 3
def sp_sbounds : ASp := fun rs k => rs = [.bag] ∧ ∀ b : Bd, SbOk b → k (.dat (bD b))
def sp_pic : ASp := fun rs k => ∃ s de m : Int, rs = [.bag, .dat (.int s), .dat (.int de), .dat (.int m)] ∧ (4 ≤ s ∧ s ≤ 20) ∧ (0 ≤ m ∧ m ≤ 6) ∧ ∀ ps, PicOk ps → k (.dat (.tuple (ps.map lampD)))
def sp_showof : ASp := fun rs k => ∃ (b : Bd) (ps : List Col) (ss : List Scene) (m : Int), rs = [.bag, .dat (bD b), .bor (ps.map cD), .bor (ss.map sceneD), .dat (.int m)] ∧ ss.length ≤ 3 ∧ (∀ s ∈ ss, SceneOk b s) ∧ (0 ≤ m ∧ m ≤ 5) ∧
  ∀ S : Show, S.b = b → S.pads = ps → S.scenes = ss → (0 ≤ S.full ∧ S.full ≤ 1000000) → (0 ≤ S.holding ∧ S.holding ≤ 10) → (0 ≤ S.flying ∧ S.flying ≤ 10) → k (.dat (showD S))
def sp_show : ASp := fun rs k => ∃ pa pb : Int, rs = [.bag, .dat (.int pa), .dat (.int pb)] ∧ (1 ≤ pa ∧ pa ≤ 4) ∧ (1 ≤ pb ∧ pb ≤ 3) ∧ ∀ S, ShowOk S → k (.dat (showD S))
def sp_small : ASp := fun rs k => rs = [.bag] ∧ ∀ S, ShowOk S → k (.dat (showD S))
/-! ## the lamps by their columns -/
structure LampsOk (n : Nat) (kds : List (Col × PyData)) : Prop where
  len : kds.length ≤ n
  nd : (kds.map (·.1)).Nodup
  ok : ∀ p ∈ kds, ∃ l, LampOk l ∧ p = (lcol l, lampD l)
theorem LampsOk.nil : LampsOk 0 [] := ⟨Nat.le_refl _, List.Pairwise.nil, fun p h => by cases h⟩
theorem LampsOk.up {n m : Nat} {kds : List (Col × PyData)} (h : LampsOk n kds) (hm : n ≤ m) : LampsOk m kds := ⟨Nat.le_trans h.len hm, h.nd, h.ok⟩
theorem LampsOk.put {n : Nat} {kds : List (Col × PyData)} (h : LampsOk n kds) {l : Lamp} (hl : LampOk l) : LampsOk (n + 1) (putG kds (lcol l) (lampD l)) := by
  refine ⟨Nat.le_trans (length_putG ..) (Nat.add_le_add_right h.len 1), nodup_putG _ _ h.nd, fun p hp => ?_⟩
  rcases mem_putG hp with z | rfl
  · exact h.ok p z
  · exact ⟨l, hl, rfl⟩
def lampOf : PyData → Lamp
  | .tuple [.int x, .int z, sh, .int w] => ⟨x, z, sh, w⟩
  | _ => ⟨0, 0, .none, 0⟩
def lampAt (kds : List (Col × PyData)) (c : Col) : Lamp := lampOf ((lookG kds c).getD .none)
def picOf (kds : List (Col × PyData)) : List Lamp := ((kds.map (·.1)).mergeSort leC).map (lampAt kds)
theorem LampsOk.at_ {n : Nat} {kds : List (Col × PyData)} (h : LampsOk n kds) {c : Col} (hc : c ∈ kds.map (·.1)) : lookG kds c = some (lampD (lampAt kds c)) ∧ lcol (lampAt kds c) = c ∧ LampOk (lampAt kds c) := by
  obtain ⟨d, hd⟩ := Option.isSome_iff_exists.mp (lookG_some_iff.mpr hc)
  obtain ⟨l, hl, e⟩ := h.ok _ (lookG_mem hd)
  have e1 : c = lcol l := congrArg (·.1) e
  have e2 : d = lampD l := congrArg (·.2) e
  have e3 : lampAt kds c = l := by
    unfold lampAt
    rw [hd, e2]
    rfl
  rw [e3, hd, e2]
  exact ⟨rfl, e1.symm, hl⟩
theorem sortC_mem {cs : List Col} {c : Col} : c ∈ cs.mergeSort leC ↔ c ∈ cs := (List.mergeSort_perm cs leC).mem_iff
theorem LampsOk.pic {n : Nat} {kds : List (Col × PyData)} (h : LampsOk n kds) (hn : n ≤ 6) : PicOk (picOf kds) := by
  have p := List.mergeSort_perm (kds.map (·.1)) leC
  have nd := p.nodup_iff.mpr h.nd
  have st : ((kds.map (·.1)).mergeSort leC).Pairwise fun a b => leC a b = true := List.pairwise_mergeSort (le := leC) (fun a b c x y => leC_trans x y) leC_tot _
  refine ⟨?_, ?_, fun l hl => ?_⟩
  · unfold picOf
    rw [List.length_map, p.length_eq, List.length_map]
    exact Nat.le_trans h.len hn
  · refine List.pairwise_map.mpr ((List.Pairwise.and nd st).imp_of_mem fun {a b} ha hb z => ?_)
    rw [(h.at_ (sortC_mem.mp ha)).2.1, (h.at_ (sortC_mem.mp hb)).2.1]
    have q := of_decide_eq_true z.2
    have ne : ¬ (a.1 = b.1 ∧ a.2 = b.2) := fun e => z.1 (Prod.ext e.1 e.2)
    unfold ltC
    omega
  · obtain ⟨c, hc, rfl⟩ := List.mem_map.mp hl
    exact (h.at_ (sortC_mem.mp hc)).2.2
theorem PicOk.sub {ps qs : List Lamp} (h : PicOk ps) (s : qs.Sublist ps) : PicOk qs := ⟨Nat.le_trans s.length_le h.few, h.asc.sublist s, fun l hl => h.ok l (s.subset hl)⟩
theorem mul_bnd {x y p q : Int} (hx : 0 ≤ x ∧ x ≤ p) (hy : 0 ≤ y ∧ y ≤ q) : 0 ≤ x * y ∧ x * y ≤ p * q :=
  ⟨Int.mul_nonneg hx.1 hy.1, Int.mul_le_mul hx.2 hy.2 hy.1 (by omega)⟩
/-! ## what is shown of a show -/
theorem shades_small {d : PyData} (h : d ∈ shades) : Small 30 1 d := by
  simp only [shades, List.mem_cons, List.not_mem_nil, or_false] at h
  rcases h with rfl | rfl | rfl | rfl <;> exact ⟨by decide +kernel, by decide +kernel, by decide +kernel, by decide +kernel⟩
theorem small_i {i : Int} (h1 : -1000000 < i) (h2 : i < 1000000) : Small 8 0 (.int i) := small_pt h1 h2
theorem small_m {i : Int} (h1 : -9000000 < i) (h2 : i < 9000000) : Small 8 0 (.int i) := small_int 7 (by decide) (by decide) (Nat.lt_of_lt_of_le (show i.natAbs < 9000000 by omega) (by decide))
theorem lamp_small {l : Lamp} (h : LampOk l) : Small 131 2 (lampD l) := by
  have hx := h.x
  have hz := h.z
  have hw := h.wt
  refine (small_tup (L := 30) (D := 1) 4 (by simp) fun x hxx => ?_).mono (by decide) (by decide)
  simp only [List.mem_cons, List.not_mem_nil, or_false] at hxx
  rcases hxx with rfl | rfl | rfl | rfl
  · exact (small_i (by omega) (by omega)).mono (by decide) (by decide)
  · exact (small_i (by omega) (by omega)).mono (by decide) (by decide)
  · exact shades_small h.sh
  · exact (small_i (by omega) (by omega)).mono (by decide) (by decide)
theorem pic_small {ps : List Lamp} (h : PicOk ps) : Small 801 3 (picD ps) :=
  (small_tup (L := 131) (D := 2) 6 (by rw [List.length_map]; exact h.few) fun x hx => by
    obtain ⟨l, hl, rfl⟩ := List.mem_map.mp hx
    exact lamp_small (h.ok l hl)).mono (by decide) (by decide)
theorem scene_small {b : Bd} {s : Scene} (h : SceneOk b s) : Small 2412 4 (sceneD s) := by
  have ht := h.ticks
  have hh := h.hold
  refine (small_tup (L := 801) (D := 3) 3 (by simp) fun x hx => ?_).mono (by decide) (by decide)
  simp only [List.mem_cons, List.not_mem_nil, or_false] at hx
  rcases hx with rfl | rfl | rfl
  · exact (small_i (by omega) (by omega)).mono (by decide) (by decide)
  · exact (small_i (by omega) (by omega)).mono (by decide) (by decide)
  · exact pic_small h.pic
theorem bd_small {b : Bd} (h : BdOk b) : Small 93 1 (bD b) := by
  obtain ⟨h1, h2, h3, h4, h5, h6, h7, h8, h9⟩ := h
  refine (small_tup (L := 8) (D := 0) 9 (by simp) fun x hx => ?_).mono (by decide) (by decide)
  simp only [List.mem_cons, List.not_mem_nil, or_false] at hx
  rcases hx with rfl | rfl | rfl | rfl | rfl | rfl | rfl | rfl | rfl <;> exact small_i (by omega) (by omega)
theorem nr_of {c : Col} (h : (0 ≤ c.1 ∧ c.1 ≤ 1000) ∧ (0 ≤ c.2 ∧ c.2 ≤ 1000)) : Small 23 1 (cD c) := by
  refine (small_tup (L := 8) (D := 0) 2 (by simp) fun x hx => ?_).mono (by decide) (by decide)
  simp only [List.mem_cons, List.not_mem_nil, or_false] at hx
  rcases hx with rfl | rfl <;> exact small_i (by omega) (by omega)
theorem show_small {S : Show} (h : ShowOk S) : Small 28991 6 (showD S) := by
  have h1 := h.full
  have h2 := h.holding
  have h3 := h.flying
  refine (small_tup (L := 7245) (D := 5) 4 (by simp) fun x hx => ?_).mono (by decide) (by decide)
  simp only [List.mem_cons, List.not_mem_nil, or_false] at hx
  rcases hx with rfl | rfl | rfl | rfl
  · exact (bd_small h.b).mono (by decide) (by decide)
  · exact (small_tup (L := 23) (D := 1) 5 (by rw [List.length_map]; exact h.pads1) fun x hx => by
      obtain ⟨c, hc, rfl⟩ := List.mem_map.mp hx
      exact nr_of (h.pads c hc)).mono (by decide) (by decide)
  · refine (small_tup (L := 8) (D := 0) 3 (by simp) fun x hx => ?_).mono (by decide) (by decide)
    simp only [List.mem_cons, List.not_mem_nil, or_false] at hx
    rcases hx with rfl | rfl | rfl <;> exact small_m (by omega) (by omega)
  · exact (small_tup (L := 2412) (D := 4) 3 (by rw [List.length_map]; exact h.scenes1) fun x hx => by
      obtain ⟨s, hs, rfl⟩ := List.mem_map.mp hx
      exact scene_small (h.scenes s hs)).mono (by decide) (by decide)
theorem show_tells {S : Show} (h : ShowOk S) : Tells (showD S) := (show_small h).tells (by decide) (by decide)
theorem times_bnd : ∀ (xs : List Scene) (o l B : Int), (0 ≤ o ∧ o ≤ B) → (0 ≤ l ∧ l ≤ B) → (∀ s ∈ xs, (0 ≤ s.ticks ∧ s.ticks ≤ 20000) ∧ (0 ≤ s.hold ∧ s.hold ≤ 100)) →
    ∀ r ∈ timesF o l xs, (0 ≤ r.op ∧ r.op ≤ B + 20100 * xs.length) ∧ (0 ≤ r.le ∧ r.le ≤ B + 20100 * xs.length) ∧ (0 ≤ r.ar ∧ r.ar ≤ B + 20100 * xs.length) ∧ (0 ≤ r.en ∧ r.en ≤ B + 20100 * xs.length)
  | [], _, _, _, _, _, _, r, hr => by cases hr
  | s :: q, o, l, B, ho, hl, h, r, hr => by
    have hs := h s (by simp)
    rw [List.length_cons]
    rcases List.mem_cons.mp hr with rfl | hr
    · dsimp only
      omega
    · have := times_bnd q (l + s.ticks) (l + s.ticks + s.hold) (B + 20100) (by omega) (by omega) (fun z hz => h z (List.mem_cons_of_mem _ hz)) r hr
      omega
theorem need_bnd {b : Bd} (h : BdOk b) : 0 ≤ b.need ∧ b.need ≤ 50 := by
  have h1 := h.l0
  have h2 := h.cl
  have h3 := h.si
  have h4 := h.cu
  unfold Bd.need
  omega
theorem row_bnd {S : Show} (h : ShowOk S) {r : Row4} (hr : r ∈ timesS S) : (0 ≤ r.op ∧ r.op ≤ 70000) ∧ (0 ≤ r.le ∧ r.le ≤ 70000) ∧ (0 ≤ r.ar ∧ r.ar ≤ 70000) ∧ (0 ≤ r.en ∧ r.en ≤ 70000) := by
  have hn := need_bnd h.b
  have h1 := h.scenes1
  have := times_bnd S.scenes 0 S.b.need 50 (by omega) hn (fun s hs => ⟨by have := (h.scenes s hs).ticks; omega, (h.scenes s hs).hold⟩) r hr
  omega
theorem times_tells {S : Show} (h : ShowOk S) : Tells (.list [.int S.b.need, .tuple ((timesS S).map rowT)]) := by
  have hn := need_bnd h.b
  refine (small_lst (L := 200) (D := 2) 2 (by simp) fun x hx => ?_).tells (by decide) (by decide)
  simp only [List.mem_cons, List.not_mem_nil, or_false] at hx
  rcases hx with rfl | rfl
  · exact (small_i (by omega) (by omega)).mono (by decide) (by decide)
  · refine (small_tup (L := 43) (D := 1) 3 (by rw [List.length_map]; unfold timesS; rw [times_len]; exact h.scenes1) fun x hx => ?_).mono (by decide) (by decide)
    obtain ⟨r, hr, rfl⟩ := List.mem_map.mp hx
    have := row_bnd h hr
    refine (small_tup (L := 8) (D := 0) 4 (by simp) fun x hx => ?_).mono (by decide) (by decide)
    simp only [List.mem_cons, List.not_mem_nil, or_false] at hx
    rcases hx with rfl | rfl | rfl | rfl <;> exact small_i (by omega) (by omega)
theorem write_tells {S : Show} (h : ShowOk S) {r : Row4} (hr : r ∈ timesS S) : Tells (.int (writeF S r)) := by
  have := row_bnd h hr
  have h1 := h.b.l0
  have h2 := h.b.cl
  have h3 := h.b.si
  have h4 := h.b.cu
  unfold writeF
  exact (small_i (by omega) (by omega)).tells (by decide) (by decide)
theorem charge_bnd {hol fly : Int} {s : Scene} {P : Int} (hP : 0 ≤ P) (h1 : 0 ≤ hol ∧ hol ≤ P) (h2 : 0 ≤ fly ∧ fly ≤ P) (ht : 0 ≤ s.ticks ∧ s.ticks ≤ 20000) (hh : 0 ≤ s.hold ∧ s.hold ≤ 100) : 0 ≤ chargeF hol fly s ∧ chargeF hol fly s ≤ 20100 * P := by
  have m : 0 ≤ (if hol > fly then hol else fly) ∧ (if hol > fly then hol else fly) ≤ P := by split <;> omega
  have a := mul_bnd hh h1
  have b := mul_bnd ht m
  unfold chargeF
  omega
theorem need_tells {S : Show} (h : ShowOk S) : Tells (.int (needF S)) := by
  have key : ∀ xs : List Scene, (∀ s ∈ xs, SceneOk S.b s) → 0 ≤ (xs.map (chargeF S.holding S.flying)).sum ∧ (xs.map (chargeF S.holding S.flying)).sum ≤ 201000 * xs.length := by
    intro xs
    induction xs with
    | nil => intro _; simp
    | cons s q ih =>
      intro hs
      have h1 := ih fun z hz => hs z (List.mem_cons_of_mem _ hz)
      have ht := (hs s (by simp)).ticks
      have := charge_bnd (P := 10) (by decide) h.holding h.flying (by omega) (hs s (by simp)).hold
      rw [List.map_cons, List.sum_cons, List.length_cons]
      omega
  have := key S.scenes h.scenes
  have h1 := h.scenes1
  unfold needF
  exact (small_i (by omega) (by omega)).tells (by decide) (by decide)
theorem stands_tells {S : Show} (h : ShowOk S) {i : Int} {cs : List Col} (hc : StandIs S i cs) : Tells (.tuple (cs.map cD)) := by
  refine (small_tup (L := 23) (D := 1) 64 (by rw [List.length_map]; exact Nat.le_of_lt hc.1) fun x hx => ?_).tells (by decide) (by decide)
  obtain ⟨c, hc1, rfl⟩ := List.mem_map.mp hx
  have hm := (hc.2.2.1 c).mp hc1
  unfold standL at hm
  rcases List.mem_append.mp hm with z | z
  · exact nr_of (h.pads c z)
  · split at z
    · split at z
      · rename_i s hs
        exact nr_of (seat_bnd (by have := h.b.sp; omega) (h.scenes s (List.mem_of_getElem? hs)).pic c z)
      · cases z
    · cases z
theorem sb_ne {b : Bd} (h : SbOk b) {x : Int} (hx : 1 ≤ x ∧ x ≤ 14) : SbOk { b with ne := x } := by
  obtain ⟨⟨h1, h2, h3, h4, h5, h6, h7, h8, h9⟩, g1, g2, g3⟩ := h
  exact ⟨⟨h1, ⟨hx.1, by dsimp only; omega⟩, h3, h4, h5, h6, h7, h8, h9⟩, g1, hx.2, g3⟩
theorem sb_one {b : Bd} (h : SbOk b) : SbOk { b with ne := 1, wi := 0, cl := 0, fa := 0 } := by
  obtain ⟨⟨h1, h2, h3, h4, h5, h6, h7, h8, h9⟩, g1, g2, g3⟩ := h
  exact ⟨⟨h1, ⟨by dsimp only; omega, by dsimp only; omega⟩, ⟨by dsimp only; omega, by dsimp only; omega⟩, ⟨by dsimp only; omega, by dsimp only; omega⟩, ⟨by dsimp only; omega, by dsimp only; omega⟩, h6, h7, h8, h9⟩, g1, by dsimp only; omega, g3⟩
/-- with no lag and a near of 1 each tick is enough -/
theorem sb_one_en {b : Bd} (h : SbOk b) {t : Int} (ht : 1 ≤ t) : EnoughP { b with ne := 1, wi := 0, cl := 0, fa := 0 } t := by
  have hs := h.sp
  have hsp := mul_bnd (x := b.sp) (y := b.sp) (p := 20) (q := 20) (by omega) (by omega)
  have hs2 : 4 * 4 ≤ b.sp * b.sp := Int.mul_le_mul hs.1 hs.1 (by decide) (by omega)
  refine enough_mono (sb_one h).ok.p (by decide : (0 : Int) < 1) ht ?_
  rw [← law_iff (sb_one h).ok.p (by decide)]
  have e : mineI { b with ne := 1, wi := 0, cl := 0, fa := 0 } 1 = b.sp * b.sp + 2 := by
    unfold mineI Bd.R Bd.L
    dsimp only
    grind
  unfold lawB
  rw [e]
  have z : 8 * b.sp * b.sp * 1 * 1 * 1 * 1 * 1 * 1 ≤ (b.sp * b.sp + 2) * (b.sp * b.sp + 2) := by
    have q := sqI_nonneg (b.sp * b.sp - 2)
    grind
  rw [Bool.and_eq_true, Bool.and_eq_true, Bool.not_eq_true', decide_eq_false_iff_not, decide_eq_true_eq, decide_eq_true_eq]
  refine ⟨?_, by omega, ?_⟩
  · unfold Bd.R
    dsimp only
    omega
  · unfold Bd.R
    dsimp only
    exact z
theorem cols_of {P : Col → Prop} : ∀ (out : List PyData), (∀ d ∈ out, ∃ c : Col, d = cD c ∧ P c) → ∃ cs : List Col, out = cs.map cD ∧ ∀ c ∈ cs, P c
  | [], _ => ⟨[], rfl, fun c hc => by cases hc⟩
  | d :: r, h => by
    obtain ⟨c, rfl, hc⟩ := h d (by simp)
    obtain ⟨cs, rfl, hs⟩ := cols_of r fun x hx => h x (List.mem_cons_of_mem _ hx)
    exact ⟨c :: cs, rfl, fun x hx => by
      rcases List.mem_cons.mp hx with rfl | z
      · exact hc
      · exact hs x z⟩
theorem nodup_len : ∀ (xs ys : List Col), xs.Nodup → (∀ c ∈ xs, c ∈ ys) → xs.length ≤ ys.length
  | [], _, _, _ => Nat.zero_le _
  | x :: xs, ys, h, hs => by
    have hx := hs x (by simp)
    have hn := List.nodup_cons.mp h
    have := nodup_len xs (ys.erase x) hn.2 fun c hc => (List.mem_erase_of_ne (fun e : c = x => hn.1 (by rw [← e]; exact hc))).mpr (hs c (List.mem_cons_of_mem _ hc))
    rw [List.length_erase_of_mem hx] at this
    have := List.length_pos_of_mem hx
    rw [List.length_cons]
    omega
theorem show_less {S : Show} (h : ShowOk S) (hf : 0 < S.full) : ShowOk { S with full := S.full - 1 } := by
  obtain ⟨h1, h2, h3, h4, h5, h6, h7, h8, h9, h10⟩ := h
  exact ⟨h1, h2, h3, h4, by dsimp only; omega, h6, h7, h8, h9, h10⟩
end My

namespace My
variable [Dl.LamT]
open Frac RowLaw
/-! ## rows, windows, and how many there must be -/
theorem least_rowX {n r : Nat} {p : Nat → Bool} (h : ((List.range n).filter p).head? = some r) : p r = true ∧ r < n ∧ ∀ j, j < r → p j = false := by
  have hm := List.mem_filter.mp (List.mem_of_mem_head? h)
  refine ⟨hm.2, List.mem_range.mp hm.1, fun j hj => ?_⟩
  cases hp : p j with
  | false => rfl
  | true =>
    exfalso
    have hj2 : j ∈ (List.range n).filter p := List.mem_filter.mpr ⟨List.mem_range.mpr (Nat.lt_trans hj (List.mem_range.mp hm.1)), hp⟩
    obtain ⟨ys, hys⟩ : ∃ ys, (List.range n).filter p = r :: ys := by
      cases hh : (List.range n).filter p with
      | nil => rw [hh] at h; cases h
      | cons a b =>
        rw [hh] at h
        cases h
        exact ⟨b, rfl⟩
    have pw : ((List.range n).filter p).Pairwise (· < ·) := (List.pairwise_lt_range).filter _
    rw [hys] at pw hj2
    rcases List.mem_cons.mp hj2 with z | z
    · omega
    · have := (List.pairwise_cons.mp pw).1 j z
      omega
theorem rs_lenX {s : Int} {xs : List Int} {fs : List Nat} (h : RS s xs fs) : fs.length = xs.length := by
  obtain ⟨last, _, z⟩ := h
  exact z.len
theorem rs_rowsX {s : Int} {xs : List Int} {fs : List Nat} (h : RS s xs fs) : rowsOf s xs = fs := by
  obtain ⟨last, z, _⟩ := h
  unfold rowsOf
  rw [z]
/-- rows of lamps: alike only if far; each row below was barred -/
theorem rows_full (s : Int) (xs : List Int) (hw : xs.Pairwise (· ≤ ·)) : ∀ n, n ≤ xs.length → ∃ fs, RS s (xs.take n) fs ∧ (∀ k j : Nat, k < j → j < n → fs.getD k 0 = fs.getD j 0 → s ≤ xs.getD j 0 - xs.getD k 0) ∧
    ∀ k j : Nat, k < n → j < fs.getD k 0 → ∃ i : Nat, i < k ∧ fs.getD i 0 = j ∧ xs.getD k 0 - xs.getD i 0 < s
  | 0, _ => ⟨[], ⟨[], rfl, ri_nil⟩, fun k j _ h => absurd h (Nat.not_lt_zero j), fun k j h => absurd h (Nat.not_lt_zero k)⟩
  | n + 1, hn => by
    obtain ⟨fs, h1, h2, h3⟩ := rows_full s xs hw n (by omega)
    have hl : (xs.take n).length = n := by rw [List.length_take]; omega
    have fl : fs.length = n := by rw [rs_lenX h1, hl]
    have tk : ∀ k : Nat, k < n → (xs.take n).getD k 0 = xs.getD k 0 := fun k hk => by rw [List.getD_eq_getElem?_getD, List.getElem?_take_of_lt hk, List.getD_eq_getElem?_getD]
    have nx : xs.take (n + 1) = xs.take n ++ [xs.getD n 0] := by
      rw [List.take_add_one, List.getD_eq_getElem?_getD, List.getElem?_eq_getElem (by omega)]
      rfl
    have asc : ∀ k : Nat, k < (xs.take n).length → (xs.take n).getD k 0 ≤ xs.getD n 0 := fun k hk => by
      rw [hl] at hk
      rw [tk k hk, List.getD_eq_getElem?_getD, List.getD_eq_getElem?_getD, List.getElem?_eq_getElem (by omega), List.getElem?_eq_getElem (show n < xs.length by omega)]
      exact List.pairwise_iff_getElem.mp hw k n (by omega) (by omega) hk
    obtain ⟨r, r1, r2⟩ := rs_step (xs.getD n 0) asc h1
    have gl : ∀ q : Nat, q < n → (fs ++ [r]).getD q 0 = fs.getD q 0 := fun q hq => by rw [getD_append, if_pos (by omega)]
    have gr : (fs ++ [r]).getD n 0 = r := by
      rw [getD_append, if_neg (by omega), fl, Nat.sub_self]
      rfl
    have hd := r2 (fun q => decide (¬ ∃ k : Nat, k < (xs.take n).length ∧ fs.getD k 0 = q ∧ xs.getD n 0 - (xs.take n).getD k 0 < s)) fun q => by rw [decide_eq_true_eq]
    obtain ⟨p1, p2, p3⟩ := least_rowX hd
    refine ⟨fs ++ [r], by rw [nx]; exact r1, fun k j hkj hj e => ?_, fun k j hk hj => ?_⟩
    · by_cases hjn : j < n
      · rw [gl k (by omega), gl j hjn] at e
        exact h2 k j hkj hjn e
      · have ej : j = n := by omega
        subst ej
        rw [gl k hkj, gr] at e
        have hno := of_decide_eq_true p1
        refine Int.not_lt.mp fun hlt => hno ⟨k, by rw [hl]; exact hkj, e, ?_⟩
        rw [tk k hkj]
        exact hlt
    · by_cases hkn : k < n
      · rw [gl k hkn] at hj
        obtain ⟨i, i1, i2, i3⟩ := h3 k j hkn hj
        exact ⟨i, i1, by rw [gl i (by omega)]; exact i2, i3⟩
      · have ek : k = n := by omega
        subst ek
        rw [gr] at hj
        have hb := of_decide_eq_false (p3 j hj)
        obtain ⟨i, i1, i2, i3⟩ := Classical.not_not.mp hb
        rw [hl] at i1
        rw [tk i i1] at i3
        exact ⟨i, i1, by rw [gl i i1]; exact i2, i3⟩
theorem rowsX {s : Int} {xs : List Int} (hw : xs.Pairwise (· ≤ ·)) : (rowsOf s xs).length = xs.length ∧ (∀ k j : Nat, k < j → j < xs.length → (rowsOf s xs).getD k 0 = (rowsOf s xs).getD j 0 → s ≤ xs.getD j 0 - xs.getD k 0) ∧
    ∀ k j : Nat, k < xs.length → j < (rowsOf s xs).getD k 0 → ∃ i : Nat, i < k ∧ (rowsOf s xs).getD i 0 = j ∧ xs.getD k 0 - xs.getD i 0 < s := by
  obtain ⟨fs, h1, h2, h3⟩ := rows_full s xs hw xs.length (Nat.le_refl _)
  rw [List.take_length] at h1
  rw [rs_rowsX h1]
  exact ⟨rs_lenX h1, h2, h3⟩
/-! counting -/
theorem nodup_sub {α : Type} [DecidableEq α] : ∀ (xs ys : List α), xs.Nodup → (∀ c ∈ xs, c ∈ ys) → xs.length ≤ ys.length
  | [], _, _, _ => Nat.zero_le _
  | a :: r, ys, hn, hs => by
    obtain ⟨h1, h2⟩ := List.nodup_cons.mp hn
    have ha := hs a (by simp)
    have := nodup_sub r (ys.erase a) h2 fun c hc => (List.mem_erase_of_ne (fun e => h1 (by rw [← e]; exact hc))).mpr (hs c (List.mem_cons_of_mem _ hc))
    rw [List.length_erase_of_mem ha] at this
    have := List.length_pos_of_mem ha
    rw [List.length_cons]
    omega
def Wn (s : Int) (xs : List Int) (a : Int) : Nat := (xs.filter fun b => decide (a ≤ b ∧ b < a + s)).length
def wix (s : Int) (xs : List Int) (a : Int) : List Nat := (List.range xs.length).filter fun k => decide (a ≤ xs.getD k 0 ∧ xs.getD k 0 < a + s)
theorem wix_len (s : Int) (xs : List Int) (a : Int) : (wix s xs a).length = Wn s xs a := by
  have e : xs = (List.range xs.length).map fun k => xs.getD k 0 := by
    refine List.ext_getElem (by simp) fun i h1 h2 => ?_
    rw [List.getElem_map, List.getElem_range, List.getD_eq_getElem?_getD, List.getElem?_eq_getElem h1]
    rfl
  unfold wix Wn
  conv => rhs; rw [e]
  rw [List.filter_map, List.length_map]
  rfl
def IsOm (s : Int) (xs : List Int) (m : Int) : Prop := (∀ a : Int, (Wn s xs a : Int) ≤ m) ∧ ∃ a : Int, (Wn s xs a : Int) = m
theorem om_one {s : Int} {xs : List Int} {m n : Int} (h : IsOm s xs m) (g : IsOm s xs n) : m = n := by
  obtain ⟨a, ha⟩ := h.2
  obtain ⟨b, hb⟩ := g.2
  have h1 := h.1 b
  have g1 := g.1 a
  omega
/-- what tells rows below m -/
structure Tells_ (s : Int) (xs : List Int) (m : Nat) (f : List Nat) : Prop where
  len : f.length = xs.length
  low : ∀ k, k < xs.length → f.getD k 0 < m
  far : ∀ k j : Nat, k < j → j < xs.length → f.getD k 0 = f.getD j 0 → s ≤ xs.getD j 0 - xs.getD k 0
theorem tell_le {s : Int} {xs : List Int} {m : Nat} {f : List Nat} (h : Tells_ s xs m f) (a : Int) : Wn s xs a ≤ m := by
  rw [← wix_len]
  have nd : ((wix s xs a).map fun k => f.getD k 0).Nodup := by
    unfold wix
    rw [List.nodup_iff_pairwise_ne, List.pairwise_map]
    refine List.Pairwise.imp_of_mem (fun {k j} hk hj hkj e => ?_) (List.Pairwise.sublist List.filter_sublist List.pairwise_lt_range)
    obtain ⟨k1, k2⟩ := List.mem_filter.mp hk
    obtain ⟨j1, j2⟩ := List.mem_filter.mp hj
    have k2 := of_decide_eq_true k2
    have j2 := of_decide_eq_true j2
    have := h.far k j hkj (List.mem_range.mp j1) e
    omega
  have := nodup_sub _ (List.range m) nd fun r hr => by
    obtain ⟨k, hk, rfl⟩ := List.mem_map.mp hr
    exact List.mem_range.mpr (h.low k (List.mem_range.mp (List.mem_filter.mp hk).1))
  rw [List.length_map, List.length_range] at this
  exact this
def topI (fs : List Nat) : Nat := fs.foldr (fun r m => max (r + 1) m) 0
theorem topI_cons (a : Nat) (fs : List Nat) : topI (a :: fs) = max (a + 1) (topI fs) := rfl
theorem topI_up : ∀ (fs : List Nat), ∀ r ∈ fs, r + 1 ≤ topI fs
  | [], r, hr => nomatch hr
  | a :: fs, r, hr => by
    rw [topI_cons]
    rcases List.mem_cons.mp hr with rfl | z
    · omega
    · have := topI_up fs r z
      omega
theorem topI_at : ∀ (fs : List Nat), topI fs = 0 ∨ ∃ r ∈ fs, topI fs = r + 1
  | [] => .inl rfl
  | a :: fs => by
    rw [topI_cons]
    rcases topI_at fs with z | ⟨r, h1, h2⟩
    · exact .inr ⟨a, by simp, by omega⟩
    · by_cases h : a + 1 ≤ topI fs
      · exact .inr ⟨r, List.mem_cons_of_mem _ h1, by omega⟩
      · exact .inr ⟨a, by simp, by omega⟩
theorem top_of {fs : List Nat} {n : Int} (h1 : n ∈ (-1 : Int) :: fs.map fun r => ((r : Nat) : Int)) (h2 : ∀ y ∈ (-1 : Int) :: fs.map fun r => ((r : Nat) : Int), y ≤ n) : n + 1 = ((topI fs : Nat) : Int) := by
  have a : n + 1 ≤ ((topI fs : Nat) : Int) := by
    rcases List.mem_cons.mp h1 with rfl | z
    · omega
    · obtain ⟨r, hr, rfl⟩ := List.mem_map.mp z
      have := topI_up fs r hr
      omega
  have b : ((topI fs : Nat) : Int) ≤ n + 1 := by
    rcases topI_at fs with z | ⟨r, hr, z⟩
    · have := h2 (-1) (by simp)
      omega
    · have := h2 ((r : Nat) : Int) (List.mem_cons_of_mem _ (List.mem_map.mpr ⟨r, hr, rfl⟩))
      omega
  omega
/-- how many rows -/
def manyR (s : Int) (xs : List Int) : Nat := topI (rowsOf s xs)
theorem getD_mem {fs : List Nat} {k : Nat} (h : k < fs.length) : fs.getD k 0 ∈ fs := by
  rw [List.getD_eq_getElem?_getD, List.getElem?_eq_getElem h]
  exact List.getElem_mem h
theorem rows_tell {s : Int} {xs : List Int} (hw : xs.Pairwise (· ≤ ·)) : Tells_ s xs (manyR s xs) (rowsOf s xs) := by
  obtain ⟨h1, h2, _⟩ := rowsX (s := s) hw
  exact ⟨h1, fun k hk => topI_up _ _ (getD_mem (by omega)), h2⟩
theorem rows_om {s : Int} {xs : List Int} (hs : 0 < s) (hw : xs.Pairwise (· ≤ ·)) : IsOm s xs ((manyR s xs : Nat) : Int) := by
  have up := tell_le (rows_tell (s := s) hw)
  refine ⟨fun a => by have := up a; omega, ?_⟩
  obtain ⟨h1, h2, h3⟩ := rowsX (s := s) hw
  rcases topI_at (rowsOf s xs) with z | ⟨r, hr, z⟩
  · refine ⟨0, ?_⟩
    have := up 0
    have e : manyR s xs = 0 := z
    omega
  · obtain ⟨k, hk, e⟩ := List.getElem_of_mem hr
    have hkx : k < xs.length := by omega
    have ek : (rowsOf s xs).getD k 0 = r := by
      rw [List.getD_eq_getElem?_getD, List.getElem?_eq_getElem hk]
      exact e
    refine ⟨xs.getD k 0 - s + 1, ?_⟩
    have lo : r + 1 ≤ Wn s xs (xs.getD k 0 - s + 1) := by
      rw [← wix_len]
      have := nodup_sub (List.range (r + 1)) ((wix s xs (xs.getD k 0 - s + 1)).map fun k => (rowsOf s xs).getD k 0) List.nodup_range fun j hj => by
        have hj := List.mem_range.mp hj
        have asc : ∀ i, i < k → xs.getD i 0 ≤ xs.getD k 0 := fun i hi => by
          rw [List.getD_eq_getElem?_getD, List.getD_eq_getElem?_getD, List.getElem?_eq_getElem (by omega), List.getElem?_eq_getElem hkx]
          exact List.pairwise_iff_getElem.mp hw i k (by omega) hkx hi
        by_cases hjr : j < r
        · obtain ⟨i, i1, i2, i3⟩ := h3 k j hkx (by omega)
          have := asc i i1
          exact List.mem_map.mpr ⟨i, List.mem_filter.mpr ⟨List.mem_range.mpr (by omega), decide_eq_true (by omega)⟩, i2⟩
        · have ej : j = r := by omega
          subst ej
          exact List.mem_map.mpr ⟨k, List.mem_filter.mpr ⟨List.mem_range.mpr hkx, decide_eq_true (by omega)⟩, ek⟩
      rw [List.length_range, List.length_map] at this
      exact this
    have := up (xs.getD k 0 - s + 1)
    have e2 : manyR s xs = r + 1 := z
    omega
theorem rows_least {s : Int} {xs : List Int} (hs : 0 < s) (hw : xs.Pairwise (· ≤ ·)) {m : Nat} {f : List Nat} (h : Tells_ s xs m f) : manyR s xs ≤ m := by
  obtain ⟨a, ha⟩ := (rows_om hs hw).2
  have := tell_le h a
  omega
/-! windows: parts, moved, mirrored, put together -/
theorem Wn_app (s : Int) (xs ys : List Int) (a : Int) : Wn s (xs ++ ys) a = Wn s xs a + Wn s ys a := by
  unfold Wn
  rw [List.filter_append, List.length_append]
theorem Wn_perm {s : Int} {xs ys : List Int} (h : xs.Perm ys) (a : Int) : Wn s xs a = Wn s ys a := (h.filter _).length_eq
theorem Wn_map {s : Int} {xs : List Int} {f : Int → Int} {a b : Int} (h : ∀ x ∈ xs, (b ≤ f x ∧ f x < b + s) ↔ (a ≤ x ∧ x < a + s)) : Wn s (xs.map f) b = Wn s xs a := by
  unfold Wn
  rw [List.filter_map, List.length_map]
  congr 1
  refine List.filter_congr fun x hx => ?_
  exact decide_eq_decide.mpr (h x hx)
theorem om_move {s : Int} {xs : List Int} {m X : Int} (h : IsOm s xs m) : IsOm s (xs.map fun x => x + X) m := by
  refine ⟨fun a => ?_, ?_⟩
  · rw [Wn_map (a := a - X) (f := fun x => x + X) fun x _ => by omega]
    exact h.1 _
  · obtain ⟨a, ha⟩ := h.2
    exact ⟨a + X, by rw [Wn_map (a := a) (f := fun x => x + X) fun x _ => by omega]; exact ha⟩
theorem om_mirror {s : Int} {xs : List Int} {m X : Int} (h : IsOm s xs m) : IsOm s (xs.map fun x => X - x) m := by
  refine ⟨fun a => ?_, ?_⟩
  · rw [Wn_map (a := X - a - s + 1) (f := fun x => X - x) fun x _ => by omega]
    exact h.1 _
  · obtain ⟨a, ha⟩ := h.2
    exact ⟨X - a - s + 1, by rw [Wn_map (a := a) (f := fun x => X - x) fun x _ => by omega]; exact ha⟩
theorem om_perm {s : Int} {xs ys : List Int} {m : Int} (p : xs.Perm ys) (h : IsOm s xs m) : IsOm s ys m :=
  ⟨fun a => by rw [← Wn_perm p]; exact h.1 a, by obtain ⟨a, ha⟩ := h.2; exact ⟨a, by rw [← Wn_perm p]; exact ha⟩⟩
theorem om_less {s : Int} {xs ys : List Int} {x : Int} {m n : Int} (h : IsOm s (xs ++ x :: ys) m) (g : IsOm s (xs ++ ys) n) : m - 1 ≤ n ∧ n ≤ m := by
  have one : Wn s [x] = fun a => Wn s [x] a := rfl
  have e : ∀ a, Wn s (xs ++ x :: ys) a = Wn s (xs ++ ys) a + Wn s [x] a ∧ Wn s [x] a ≤ 1 := fun a => by
    rw [Wn_app, Wn_app, show x :: ys = [x] ++ ys from rfl, Wn_app]
    refine ⟨by omega, ?_⟩
    unfold Wn
    exact List.length_filter_le _ _
  obtain ⟨a, ha⟩ := h.2
  obtain ⟨b, hb⟩ := g.2
  have h1 := h.1 b
  have g1 := g.1 a
  have ea := e a
  have eb := e b
  omega
theorem Wn_wide (s : Int) (xs : List Int) (a : Int) : Wn s xs a ≤ Wn (s + 1) xs a := by
  unfold Wn
  rw [show (xs.filter fun b => decide (a ≤ b ∧ b < a + s)) = (xs.filter fun b => decide (a ≤ b ∧ b < a + (s + 1))).filter fun b => decide (a ≤ b ∧ b < a + s) by
    rw [List.filter_filter]
    refine List.filter_congr fun x _ => ?_
    by_cases z : a ≤ x ∧ x < a + s
    · rw [decide_eq_true z, decide_eq_true (by omega)]
      rfl
    · rw [decide_eq_false z]
      rfl]
  exact List.length_filter_le _ _
theorem om_wide {s : Int} {xs : List Int} {m n : Int} (h : IsOm s xs m) (g : IsOm (s + 1) xs n) : m ≤ n := by
  obtain ⟨a, ha⟩ := h.2
  have := g.1 a
  have := Wn_wide s xs a
  omega
theorem Wn_none {s : Int} {xs : List Int} {a : Int} (h : ∀ x ∈ xs, ¬ (a ≤ x ∧ x < a + s)) : Wn s xs a = 0 := by
  unfold Wn
  rw [List.filter_eq_nil_iff.mpr fun x hx => by rw [decide_eq_true_eq]; exact h x hx]
  rfl
theorem om_both {s : Int} {xs ys : List Int} {m n r c : Int} (h : IsOm s xs m) (g : IsOm s ys n) (k : IsOm s (xs ++ ys) r) (h1 : ∀ x ∈ xs, x < c) (h2 : ∀ y ∈ ys, c + s ≤ y) : r = if m > n then m else n := by
  have up : ∀ a, (Wn s (xs ++ ys) a : Int) ≤ if m > n then m else n := fun a => by
    rw [Wn_app]
    have := h.1 a
    have := g.1 a
    by_cases z : c ≤ a
    · rw [Wn_none fun x hx => by have := h1 x hx; omega]
      split <;> omega
    · rw [Wn_none (xs := ys) fun x hx => by have := h2 x hx; omega]
      split <;> omega
  obtain ⟨a, ha⟩ := h.2
  obtain ⟨b, hb⟩ := g.2
  obtain ⟨d, hd⟩ := k.2
  have := up d
  have ka := k.1 a
  have kb := k.1 b
  rw [Wn_app] at ka kb
  split at this <;> split <;> omega
end My

/-! own layer: sorted(set(xs)), xs a list of pairs of any ints (below nought, too) -/
namespace Dl
open PySem PySem.Spec L2 PyProof.Rows
theorem perm_inv2 {α β : Type} {f : α → β} {es l : List β} (h : es.Perm l) : ∀ xs : List α, l = xs.map f → ∃ ys : List α, es = ys.map f ∧ ys.Perm xs := by
  induction h with
  | nil =>
    intro xs e
    cases xs with
    | nil => exact ⟨[], rfl, .refl _⟩
    | cons x xs => cases e
  | cons x _ ih =>
    intro xs e
    cases xs with
    | nil => cases e
    | cons y xs =>
      rw [List.map_cons, List.cons.injEq] at e
      obtain ⟨ys, rfl, p⟩ := ih xs e.2
      exact ⟨y :: ys, by rw [List.map_cons, e.1], p.cons y⟩
  | swap x y l =>
    intro xs e
    match xs, e with
    | a :: b :: xs, e =>
      rw [List.map_cons, List.map_cons, List.cons.injEq, List.cons.injEq] at e
      exact ⟨b :: a :: xs, by rw [List.map_cons, List.map_cons, e.1, e.2.1, e.2.2], List.Perm.swap ..⟩
    | [a], e => cases e
    | [], e => cases e
  | trans _ _ ih1 ih2 =>
    intro xs e
    obtain ⟨ys, rfl, p⟩ := ih2 xs e
    obtain ⟨zs, rfl, q⟩ := ih1 ys rfl
    exact ⟨zs, rfl, q.trans p⟩
def fst2 (m : List Int) : Int := m.getD 0 0
def snd2 (m : List Int) : Int := m.getD 1 0
def le2 (m n : List Int) : Prop := fst2 m < fst2 n ∨ (fst2 m = fst2 n ∧ snd2 m ≤ snd2 n)
instance (m n : List Int) : Decidable (le2 m n) := by
  unfold le2
  infer_instance
abbrev RowQ := Addr × List Int
def encQ (q : RowQ) : PyData := .tuple [.int (fst2 q.2), .int (snd2 q.2)]
theorem two_of {m : List Int} (h : m.length = 2) : m = [fst2 m, snd2 m] := by
  match m, h with
  | [a, b], _ => rfl
theorem each_ref {R : Value → RowQ → Prop} : ∀ (L : List RowQ), (∀ q ∈ L, R (.ref q.1) q) → PySem.W.EachIs R (L.map fun q => Value.ref q.1) L
  | [], _ => .nil
  | q :: L, h => .cons (h q (by simp)) (each_ref L fun r hr => h r (List.mem_cons_of_mem _ hr))
theorem ref_each : ∀ {vs : List Value} {L : List RowQ}, PySem.W.EachIs (fun v (q : RowQ) => v = Value.ref q.1) vs L → vs = L.map fun q => Value.ref q.1
  | _, _, .nil => rfl
  | _, _, .cons h t => by rw [h, ref_each t]; rfl
theorem reads_pair {h : Heap} {b : Addr} {m : List Int} (x : TS.TupInts h (.ref b) m) (hm : m.length = 2) : Reads h (.ref b) (.tuple [.int (fst2 m), .int (snd2 m)]) [] := by
  obtain ⟨a, xs, e, ⟨o, ho, hc, n, hd⟩, i⟩ := x
  cases e
  rw [two_of hm] at i
  refine Reads.tuple ho hc hd ?_
  generalize xs.toList = us at *
  cases i with
  | cons _ t i =>
    cases i with
    | cons _ u i =>
      cases i
      exact ReadsAll.cons (as := []) (Reads.int _ _) (ReadsAll.cons (as := []) (Reads.int _ _) ReadsAll.nil)
section
variable {P : Program} {w : World} {A : Around} {E : Value → Shared → Prop} {s : Shared}
theorem sorted_setN {a : Addr} {L : List RowQ} {es : Array (Int × Value)} {ep : Nat} {t : SetTable} {Q : Value → Shared → Prop} (R : SetTR P w s.heap a L es ep t)
    (hh : A.handled = none) (hu : A.units + 64 < cLine) (h2 : ∀ p ∈ L, p.2.length = 2)
    (hQ : ∀ s' p (out : Array Value) (c : Nat) (L' : List RowQ), (∀ b o, s.heap.get? b = some o → s'.heap.get? b = some o) → s'.gens = s.gens → s'.os = s.os →
      s.heap.objs.size ≤ p → s'.heap.get? p = some (seqObj "list" out c) → out.toList = L'.map (fun q => Value.ref q.1) → L'.Perm L → L'.Pairwise (fun q r => le2 q.2 r.2) → Q (.ref p) s') :
    wpAny (model P w) A (call (.builtin "sorted") [.ref a]) Q E s := by
  have few : L.length < 64 := R.few
  have sz := R.size
  obtain ⟨o, ho, hex, hd⟩ := R.ob
  refine (Calls.call_function_entry kind_sorted plain_sorted entry_sorted (args_sorted1 _)) ?_
  unfold Builtin.«sorted»
  refine (wpAny_bind (m := checkCount "sorted" 1 1 _)) (wpAny_pure ?_)
  refine wpAny_bind ((collect_set (A := A.in1)) hh ⟨o, ho, hex.1, hd⟩ R.fits (by unfold scanBound; omega) R.tab.ris R.led fun s1 vs k1 g0 g1 o1 pm => ?_)
  have rows : es.toList.map (·.2) = L.map fun q => Value.ref q.1 := (congrArg (List.map (·.2)) R.rows).trans (by unfold L2.rowsOf; rw [List.map_map]; rfl)
  obtain ⟨L1, e1, p1⟩ := perm_inv2 pm L rows
  subst e1
  have l1 : L1.length = L.length := p1.length_eq
  have big : (64 : Nat) ≤ sizeLine := by rw [sizeLine_eq]; omega
  refine wpAny_bind (wpAny_newList ?_ (by rw [List.length_map]; omega))
  generalize hvs : (L1.map fun q => Value.ref q.1) = vs at *
  have at1 : (s1.heap.push (seqObj "list" vs.toArray 0)).get? s1.heap.objs.size = some (seqObj "list" vs.toArray 0) := by
    exact Heap.get?_push_size _ rfl
  have rd : ∀ q ∈ L1, Reads (s1.heap.push (seqObj "list" vs.toArray 0)) (.ref q.1) (encQ q) [] := fun q hq => by
    have hqL := p1.mem_iff.mp hq
    have it := isT_keep (R.tup q hqL) (h' := s1.heap.push (seqObj "list" vs.toArray 0)) fun b u e => Heap.get?_push_of_some _ (k1 b u e)
    exact reads_pair (tupInts_of it) (h2 q hqL)
  have alk : PySem.W.AllAlike (L1.map encQ) := PySem.W.AllAlike.of fun b b' => by
    unfold encQ
    simp [PySem.W.alike, PySem.W.alikeAll]
  have srt : PySem.W.Sortable (L1.map encQ) := PySem.W.Sortable.tuples fun b => ⟨_, _, rfl⟩
  have ea : PySem.W.EachIs (fun v (q : RowQ) => v = Value.ref q.1) vs L1 := by
    rw [← hvs]
    exact each_ref L1 fun q _ => rfl
  have eb : PySem.W.EachIs (fun v (q : RowQ) => ∃ as, Reads (s1.heap.push (seqObj "list" vs.toArray 0)) v (encQ q) as ∧ s1.heap.objs.size ∉ as) vs L1 := by
    have := each_ref (R := fun v (q : RowQ) => ∃ as, Reads (s1.heap.push (seqObj "list" vs.toArray 0)) v (encQ q) as ∧ s1.heap.objs.size ∉ as) L1 fun q hq => ⟨[], rd q hq, by simp⟩
    rw [hvs] at this
    exact this
  refine wpAny_bind (wpAny_holding (PySem.W.list_sort_data (s := { s1 with heap := s1.heap.push (seqObj "list" vs.toArray 0) }) (R := fun v (q : RowQ) => v = Value.ref q.1) (enc := encQ) (bs := L1) at1 ea eb alk srt (by omega) (fun b _ => ?_) fun out _ eo => ?_))
  · unfold encQ
    simp only [PyData.depth, PyData.depthAll, Around.in1_units]
    omega
  obtain ⟨c, hc⟩ := sortedHeap_at (vs := vs) (out := out.toArray) at1
  have pw : (L1.mergeSort (PySem.W.dataLe false encQ)).Pairwise fun q r => le2 q.2 r.2 := by
    have e : PySem.W.dataLe false encQ = fun p q : RowQ => decide (le2 p.2 q.2) := PySem.W.dataLe_ii (fun q : RowQ => fst2 q.2) (fun q : RowQ => snd2 q.2)
    rw [e]
    refine (List.pairwise_mergeSort (le := fun p q : RowQ => decide (le2 p.2 q.2)) (fun x y z h g => ?_) (fun x y => ?_) L1).imp fun {x y} h => of_decide_eq_true h
    · have h := of_decide_eq_true h
      have g := of_decide_eq_true g
      refine decide_eq_true ?_
      unfold le2 at *
      omega
    · rw [Bool.or_eq_true, decide_eq_true_eq, decide_eq_true_eq]
      unfold le2
      omega
  refine wpAny_pure ⟨_, rfl, hQ _ s1.heap.objs.size out.toArray c (L1.mergeSort (PySem.W.dataLe false encQ)) (fun b u e => ?_) g1 o1 g0 hc (ref_each eo) ((List.mergeSort_perm _ _).trans p1) pw⟩
  have old := k1 b u e
  have lt := Heap.lt_size old
  show (sortedHeap (s1.heap.push (seqObj "list" vs.toArray 0)) s1.heap.objs.size vs out.toArray).get? b = some u
  rw [sortedHeap_old (Nat.ne_of_lt lt) (by rw [size_push']; exact Nat.lt_succ_of_lt lt)]
  exact (Heap.get?_push_of_some _ old)
end
section
variable {X : Cx}
def rSortedN (K : PySem.W.Frag) (P : Program) (w : World) : List V → Hp → VK → Prop := fun vs H Q => ∃ (a : Addr) (L : List RowQ), vs = [V.ref a] ∧ H a = some (SetTO P w a L) ∧
  (∀ p ∈ L, SqT K H p.1 (p.2.map V.int) ∧ p.2.length = 2) ∧
  ∀ (L' : List RowQ) (p : Addr), L'.Perm L → (L'.map (·.2)).Nodup → L'.length < 64 → L'.Pairwise (fun q r => le2 q.2 r.2) → H p = none → Q (.ref p) (upd H p (.lst (L'.map fun q => V.ref q.1)))
theorem cr_sortedN (hc : X.calm = true) (hu : X.A.units + 64 < cLine) : CallR X (.builtin "sorted") (rSortedN X.K X.prog X.w) := by
  intro pins s σ H vs us Q I r h
  obtain ⟨a, L, rfl, ha, hk, q⟩ := h
  have R0 : SetT0 X.prog X.w s.heap a L := And.left (I.hok a _ ha)
  obtain ⟨es, ep, t, R⟩ := SetT0.full R0 fun p hp => I.isT (hk p hp).1
  rw [Vals.ref1 r]
  refine sorted_setN R (I.ok.hd hc) hu (fun p hp => (hk p hp).2) fun s' p out c L' kp g o hp hg hout pm pw => ?_
  have few : L'.length < 64 := pm.length_eq ▸ R.few
  have fit : (L'.map fun q => V.ref q.1).length ≤ sizeLine := by
    rw [sizeLine_eq, List.length_map]
    omega
  have none : H p = .none := I.hok.fresh hp
  have vals : Vals (L'.map fun q => V.ref q.1) out.toList := hout ▸ vals_of_refs L'
  have J : Inv X pins σ (upd H p (.lst (L'.map fun q => V.ref q.1))) { s with heap := s'.heap, gens := s'.gens, drawn := s'.drawn, toks := s'.toks } := I.call (ch := []) (Un.laid kp hp none)
    (I.hok.laid kp hp ⟨fit, out.toList, c, vals, hg⟩) (by rw [g]; exact I.bare) (fun _ z => nomatch z)
  have same : s' = { s with heap := s'.heap, gens := s'.gens, drawn := s'.drawn, toks := s'.toks } := by
    cases s
    cases s'
    cases o
    rfl
  rw [same]
  exact ⟨.ref p, _, J, rfl, q L' p pm ((pm.map (·.2)).nodup_iff.mpr R.nd) few pw none⟩
end
theorem qSortN {X : Cx} (K : PySem.W.Frag) (P : Program) (w : World) (hu : X.A.units + 64 < cLine) (h : X.K = K := by rfl) (hP : X.prog = P := by rfl) (hw : X.w = w := by rfl) (hc : X.calm = true := by rfl) : CallR X (.builtin "sorted") (rSortedN K P w) := by subst h hP hw; exact cr_sortedN hc hu
section
variable [LamT] [XR] {K : PySem.W.Frag} {P : Program} {w : World} {δ : List Slot} {te : TE} {k : Res → Prop}
theorem ec_sortSetN (h : EvC K te δ fun x => ∃ cs : List (List Int), x.items = some (cs.map tupD) ∧ cs.length < 64 ∧ (∀ c ∈ cs, c.length = 2) ∧
    ∀ ms : List (List Int), ms.Nodup → (∀ m, m ∈ ms ↔ m ∈ cs) → ms.length < 64 → ms.Pairwise le2 → k (.fresh (ms.map tupD))) :
    EvC K (tCB (rSortedN K P w) (tCons (tCB (rSetOfT K P w) (tCons te tNil)) tNil)) δ k := by
  intro B H σ R Q q
  refine h B H σ R _ fun v H1 x e o ⟨cs, hx, hl, hc, g⟩ => ?_
  obtain ⟨p, vs, rfl, h1, h2⟩ := o.list (R.same.trans e) hx
  obtain ⟨ks, e1, e2, e3⟩ := im_tups vs cs h2
  rw [e1] at h1
  have hkl : ks.length < 64 := by rw [← e2, List.length_map] at hl; exact hl
  refine ⟨p, ks, rfl, h1, fun p hp => (e3 p hp).1, hkl, fun a L ha s1 s2 => ?_⟩
  have sm : Same H1 (upd H1 a (SetTO P w a L)) := same_new ha
  refine ⟨a, L, rfl, upd_same, fun p hp => ⟨sqt_per (per_same sm) (e3 p (s1 p hp)).1, hc p.2 ?_⟩, fun L' r hp hn hl' hs hr => ?_⟩
  · rw [← e2]
    exact List.mem_map_of_mem (s1 p hp)
  · have sub : ∀ p ∈ L', p ∈ ks := fun p hp' => s1 p (hp.mem_iff.mp hp')
    refine q _ _ _ (e.trans (sm.trans (same_new hr))) (rFreshN (e.trans sm) hr (ds := (L'.map (·.2)).map tupD) (tups_im L' fun p hp' => ⟨sqt_per (per_same sm) (e3 p (sub p hp')).1, (e3 p (sub p hp')).2.per (per_same sm)⟩)) (g _ hn (fun m => ⟨fun hm => ?_, fun hm => ?_⟩) (by rw [List.length_map]; exact hl') (List.pairwise_map.mpr hs))
    · obtain ⟨p, hp', rfl⟩ := List.mem_map.mp hm
      rw [← e2]
      exact List.mem_map_of_mem (sub p hp')
    · rw [← e2] at hm
      obtain ⟨p, hp', rfl⟩ := List.mem_map.mp hm
      have := s2 p hp'
      obtain ⟨p2, hp2, e5⟩ := List.mem_map.mp this
      rw [← e5]
      exact List.mem_map_of_mem (hp.mem_iff.mpr hp2)
end
end Dl

namespace My
variable [Dl.LamT]
open PySem PySem.Spec L2 Dl
open Frac RowLaw
/-! ## drawn pictures, moved, mirrored -/
def Pt (m : List Int) : Prop := ∃ x z : Int, m = [x, z] ∧ (0 ≤ x ∧ x < 64) ∧ (0 ≤ z ∧ z < 64)
def lt2 (m n : List Int) : Prop := fst2 m < fst2 n ∨ (fst2 m = fst2 n ∧ snd2 m < snd2 n)
def Bp (l : Lamp) : Prop := (-100 ≤ l.x ∧ l.x ≤ 100) ∧ (0 ≤ l.z ∧ l.z ≤ 100)
def Asc (ps : List Lamp) : Prop := ps.Pairwise fun l m => ltC (lcol l) (lcol m)
def sp_shades : ASp := fun rs k => rs = [.bag] ∧ ∀ d, k (.dat d)
def sp_shape : ASp := fun rs k => ∃ cs : List (List Int), rs = [.bor (cs.map tupD)] ∧ cs.length < 64 ∧ (∀ c ∈ cs, Pt c) ∧ ∀ ms : List (List Int), (∀ m ∈ ms, m ∈ cs) → ms.length ≤ cs.length → ms.Pairwise lt2 → k (.dat (.tuple (ms.map tupD)))
def sp_picN : ASp := fun rs k => rs = [.bag] ∧ ∀ ps : List Lamp, ps.length ≤ 14 → Asc ps → (∀ l ∈ ps, Bp l) → k (.dat (.tuple (ps.map lampD)))
theorem lamps_of (hh : Int) : ∀ (ms : List (List Int)) (out : List PyData), out.length = ms.length → (∀ (i : Nat) (m : List Int) (e : PyData), ms[i]? = some m → out[i]? = some e → ∃ l : Lamp, e = lampD l ∧ l.x = m.getD 0 0 - hh ∧ l.z = m.getD 1 0) →
    ∃ ps : List Lamp, out = ps.map lampD ∧ ps.map lcol = ms.map (fun m => (m.getD 0 0 - hh, m.getD 1 0))
  | [], [], _, _ => ⟨[], rfl, rfl⟩
  | [], _ :: _, h, _ => by simp at h
  | _ :: _, [], h, _ => by simp at h
  | m :: ms, e :: out, h, f => by
    obtain ⟨l, h1, h2, h3⟩ := f 0 m e rfl rfl
    obtain ⟨ps, g1, g2⟩ := lamps_of hh ms out (by simpa using h) fun i m' e' a b => f (i + 1) m' e' (by simpa using a) (by simpa using b)
    exact ⟨l :: ps, by rw [h1, g1]; rfl, by rw [List.map_cons, List.map_cons, g2]; unfold lcol; rw [h2, h3]⟩
theorem nodup_leL {l D : List (List Int)} (h : l.Nodup) (g : ∀ x ∈ l, x ∈ D) : l.length ≤ D.length := nodup_sub l D h g
theorem lt2_of {ms : List (List Int)} (hn : ms.Nodup) (hp : ms.Pairwise le2) (h2 : ∀ m ∈ ms, m.length = 2) : ms.Pairwise lt2 := by
  rw [List.nodup_iff_pairwise_ne] at hn
  refine (hp.and hn).imp_of_mem fun {a b} ha hb h => ?_
  have ea := two_of (h2 a ha)
  have eb := two_of (h2 b hb)
  obtain ⟨h, hne⟩ := h
  unfold le2 at h
  unfold lt2
  by_cases e : fst2 a = fst2 b
  · by_cases e2 : snd2 a = snd2 b
    · exact absurd (by rw [ea, eb, e, e2]) hne
    · omega
  · omega
theorem Asc.up {ps : List Lamp} (h : Asc ps) : (ps.map (·.x)).Pairwise (· ≤ ·) := by
  refine List.pairwise_map.mpr (h.imp fun {l m} q => ?_)
  have q : l.x < m.x ∨ (l.x = m.x ∧ l.z < m.z) := q
  omega
theorem Asc.sub {ps qs : List Lamp} (h : Asc ps) (s : qs.Sublist ps) : Asc qs := h.sublist s
def movL (X Z : Int) (l : Lamp) : Lamp := ⟨l.x + X, l.z + Z, l.sh, l.wt⟩
def mirC (X : Int) (l : Lamp) : Col := (2 * X - l.x, l.z)
def restD (l : Lamp) : PyData := .tuple [l.sh, .int l.wt]
def farL (l : Lamp) : Lamp := ⟨l.x + 1000, l.z, l.sh, l.wt⟩
def sp_topX : ASp := fun rs k => ∃ fs : List Nat, rs = [.dat (.tuple (fs.map natD))] ∧ fs.length ≤ 40 ∧ (∀ r ∈ fs, r ≤ 40) ∧ k (.dat (.int ((topI fs : Nat) : Int)))
def sp_abr : ASp := fun rs k => ∃ (ps : List Lamp) (s : Int), rs = [.dat (.tuple (ps.map lampD)), .dat (.int s)] ∧ ps.length ≤ 20 ∧ 0 < s ∧ ∀ (m : Int) (d : PyData), IsOm s (ps.map (·.x)) m → k (.dat (.tuple [.int m, d]))
def sp_shapeof : ASp := fun rs k => ∃ ps : List Lamp, rs = [.dat (.tuple (ps.map lampD))] ∧ ps.length ≤ 20 ∧ k (.dat (.tuple ((ps.map lcol).map cD)))
def sp_moved : ASp := fun rs k => ∃ (cs : List Col) (X Z : Int), rs = [.dat (.tuple (cs.map cD)), .dat (.int X), .dat (.int Z)] ∧ cs.length ≤ 20 ∧ k (.dat (.tuple ((cs.map fun c => ((c.1 + X, c.2 + Z) : Col)).map cD)))
def sp_dots1 : ASp := fun rs k => ∃ c : Col, rs = [.bor [cD c]] ∧ k (.dat (.tuple [cD c]))
def sp_mirr1 : ASp := fun rs k => ∃ (c : Col) (X : Int), rs = [.dat (.tuple [cD c]), .dat (.int X)] ∧ (-1000 < X ∧ X < 1000) ∧ k (.dat (.tuple [cD (2 * X - c.1, c.2)]))
def sp_movL : ASp := fun rs k => ∃ (ps : List Lamp) (X Z : Int), rs = [.dat (.tuple (ps.map lampD)), .dat (.int X), .dat (.int Z)] ∧ ps.length ≤ 20 ∧ k (.dat (.tuple ((ps.map (movL X Z)).map lampD)))
def sp_mirL : ASp := fun rs k => ∃ (ps : List Lamp) (X : Int), rs = [.dat (.tuple (ps.map lampD)), .dat (.int X)] ∧ ps.length ≤ 20 ∧ Asc ps ∧ (-1000 < X ∧ X < 1000) ∧
  ∀ qs : List Lamp, (qs.map (·.x)).Pairwise (· ≤ ·) → (qs.map (·.x)).Perm (ps.map fun l => 2 * X - l.x) → qs.length = ps.length → k (.dat (.tuple (qs.map lampD)))
def sp_has : ASp := fun rs k => ∃ (ps : List Lamp) (s : Int) (m : Nat), rs = [.dat (.tuple (ps.map lampD)), .dat (.int s), .dat (.int (m : Nat))] ∧ ps.length ≤ 7 ∧ m ≤ 7 ∧ ∀ b : Bool, (b = true ↔ ∃ f, Tells_ s (ps.map (·.x)) m f) → k (.dat (.bool b))
/-! what is abreast -/
theorem filt_mono {xs : List Int} {p q : Int → Bool} (h : ∀ x ∈ xs, p x = true → q x = true) : (xs.filter p).length ≤ (xs.filter q).length := by
  induction xs with
  | nil => exact Nat.le_refl _
  | cons x r ih =>
    have ih := ih fun y hy => h y (List.mem_cons_of_mem _ hy)
    have hx := h x (by simp)
    rw [List.filter_cons, List.filter_cons]
    by_cases hp : p x = true
    · rw [if_pos hp, if_pos (hx hp), List.length_cons, List.length_cons]
      omega
    · rw [if_neg hp]
      split
      · rw [List.length_cons]
        omega
      · exact ih
theorem min_in : ∀ (ys : List Int), ys ≠ [] → ∃ a ∈ ys, ∀ b ∈ ys, a ≤ b
  | [], h => absurd rfl h
  | [y], _ => ⟨y, by simp, fun b hb => by rw [List.mem_singleton.mp hb]; exact Int.le_refl _⟩
  | y :: z :: r, _ => by
    obtain ⟨a, h1, h2⟩ := min_in (z :: r) (by simp)
    by_cases h : y ≤ a
    · exact ⟨y, by simp, fun b hb => by
        rcases List.mem_cons.mp hb with rfl | hb
        · exact Int.le_refl _
        · exact Int.le_trans h (h2 b hb)⟩
    · exact ⟨a, List.mem_cons_of_mem _ h1, fun b hb => by
        rcases List.mem_cons.mp hb with rfl | hb
        · omega
        · exact h2 b hb⟩
theorem win_any (s : Int) (xs : List Int) (a : Int) : Wn s xs a = 0 ∨ ∃ b ∈ xs, Wn s xs a ≤ Wn s xs b := by
  by_cases h : (xs.filter fun b => decide (a ≤ b ∧ b < a + s)) = []
  · exact .inl (by unfold Wn; rw [h]; rfl)
  · obtain ⟨c, h1, h2⟩ := min_in _ h
    obtain ⟨c1, c2⟩ := List.mem_filter.mp h1
    have c2 := of_decide_eq_true c2
    refine .inr ⟨c, c1, ?_⟩
    unfold Wn
    refine filt_mono fun x hx hp => ?_
    have := h2 x (List.mem_filter.mpr ⟨hx, hp⟩)
    have hp := of_decide_eq_true hp
    exact decide_eq_true (by omega)
theorem om_of {s : Int} {xs : List Int} {m : Int} (h0 : 0 ≤ m) (h1 : ∀ a ∈ xs, (Wn s xs a : Int) ≤ m) (h2 : m = 0 ∨ ∃ a ∈ xs, (Wn s xs a : Int) = m) : IsOm s xs m := by
  have up : ∀ a : Int, (Wn s xs a : Int) ≤ m := fun a => by
    rcases win_any s xs a with z | ⟨b, hb, z⟩
    · omega
    · have := h1 b hb
      omega
  refine ⟨up, ?_⟩
  rcases h2 with z | ⟨a, _, z⟩
  · exact ⟨0, by have := up 0; omega⟩
  · exact ⟨a, z⟩
/-! going through all ways -/
structure Part (s : Int) (xs : List Int) (m : Nat) (f : List Nat) : Prop where
  len : f.length ≤ xs.length
  low : ∀ k, k < f.length → f.getD k 0 < m
  far : ∀ k j : Nat, k < j → j < f.length → f.getD k 0 = f.getD j 0 → s ≤ xs.getD j 0 - xs.getD k 0
def Ext (s : Int) (xs : List Int) (m : Nat) (f : List Nat) : Prop := ∃ g, Tells_ s xs m (f ++ g)
theorem part_nil (s : Int) (xs : List Int) (m : Nat) : Part s xs m [] := ⟨Nat.zero_le _, fun k h => absurd h (Nat.not_lt_zero _), fun k j _ h => absurd h (Nat.not_lt_zero _)⟩
theorem part_full {s : Int} {xs : List Int} {m : Nat} {f : List Nat} (h : Part s xs m f) (e : f.length = xs.length) : Tells_ s xs m f := ⟨e, fun k hk => h.low k (by omega), fun k j h1 h2 => h.far k j h1 (by omega)⟩
def Okr (s : Int) (xs : List Int) (f : List Nat) (r : Nat) : Prop := ∀ k, k < f.length → f.getD k 0 = r → s ≤ xs.getD f.length 0 - xs.getD k 0
theorem part_snoc {s : Int} {xs : List Int} {m r : Nat} {f : List Nat} (h : Part s xs m f) (hl : f.length < xs.length) (hr : r < m) (ho : Okr s xs f r) : Part s xs m (f ++ [r]) := by
  have g1 : ∀ k, k < f.length → (f ++ [r]).getD k 0 = f.getD k 0 := fun k hk => by rw [getD_append, if_pos hk]
  have g2 : (f ++ [r]).getD f.length 0 = r := by
    rw [getD_append, if_neg (Nat.lt_irrefl _), Nat.sub_self]
    rfl
  refine ⟨by rw [List.length_append]; exact hl, fun k hk => ?_, fun k j hkj hj e => ?_⟩
  · rw [List.length_append, List.length_singleton] at hk
    by_cases z : k < f.length
    · rw [g1 k z]; exact h.low k z
    · rw [show k = f.length by omega, g2]; exact hr
  · rw [List.length_append, List.length_singleton] at hj
    by_cases z : j < f.length
    · rw [g1 k (by omega), g1 j z] at e
      exact h.far k j hkj z e
    · have ej : j = f.length := by omega
      subst ej
      rw [g1 k hkj, g2] at e
      exact ho k hkj e
theorem ext_step {s : Int} {xs : List Int} {m : Nat} {f : List Nat} (h : Part s xs m f) (hl : f.length < xs.length) : Ext s xs m f ↔ ∃ r, r < m ∧ Okr s xs f r ∧ Ext s xs m (f ++ [r]) := by
  constructor
  · rintro ⟨g, t⟩
    cases g with
    | nil =>
      have := t.len
      rw [List.append_nil] at this
      omega
    | cons r g =>
      have e : (f ++ r :: g) = (f ++ [r]) ++ g := by rw [List.append_assoc]; rfl
      have g2 : (f ++ r :: g).getD f.length 0 = r := by
        rw [getD_append, if_neg (Nat.lt_irrefl _), Nat.sub_self]
        rfl
      refine ⟨r, ?_, fun k hk ek => ?_, g, by rw [← e]; exact t⟩
      · have := t.low f.length hl
        rw [g2] at this
        exact this
      · refine t.far k f.length hk hl ?_
        rw [g2, getD_append, if_pos hk]
        exact ek
  · rintro ⟨r, _, _, g, t⟩
    exact ⟨r :: g, by rw [show f ++ r :: g = (f ++ [r]) ++ g by rw [List.append_assoc]; rfl]; exact t⟩
def nsT (f : List Nat) : PyData := .tuple (f.map natD)
theorem laid_nsT (f : List Nat) : PyData.canLay0 (nsT f) = true ∧ PyData.depth (nsT f) ≤ 1 := by
  obtain ⟨h1, h2⟩ := laid_all (n := 0) (f.map natD) fun d hd => by
    obtain ⟨r, _, rfl⟩ := List.mem_map.mp hd
    exact laid_int _
  unfold nsT
  simp only [PyData.canLay0, h1, PyData.depth]
  exact ⟨trivial, by omega⟩
theorem len_sum : ∀ (L : List (List Nat)) {w : List Nat → Nat}, (∀ f, 1 ≤ w f) → L.length ≤ (L.map w).sum
  | [], _, _ => Nat.zero_le _
  | f :: L, w, h => by
    have := len_sum L h
    have := h f
    rw [List.map_cons, List.sum_cons, List.length_cons]
    omega
theorem zip_own {α β : Type} (f : α → β) : ∀ ps : List α, (ps.map f).zip ps = ps.map fun l => (f l, l)
  | [] => rfl
  | p :: ps => by rw [List.map_cons, List.zip_cons_cons, zip_own f ps, List.map_cons]
theorem mir_nodup {ps : List Lamp} (h : Asc ps) (X : Int) : (ps.map (mirC X)).Nodup := by
  rw [List.nodup_iff_pairwise_ne, List.pairwise_map]
  refine h.imp fun {l m} q e => ?_
  have q : l.x < m.x ∨ (l.x = m.x ∧ l.z < m.z) := q
  have e1 : 2 * X - l.x = 2 * X - m.x := congrArg (·.1) e
  have e2 : l.z = m.z := congrArg (·.2) e
  omega
theorem one_of {ms : List (List Int)} {x : List Int} (hn : ms.Nodup) (h : ∀ m, m ∈ ms ↔ m ∈ [x]) : ms = [x] := by
  have hx : x ∈ ms := (h x).mpr (by simp)
  match ms, hn, h, hx with
  | [a], _, h, hx => rw [List.mem_singleton.mp hx]
  | a :: b :: r, hn, h, _ =>
    have ea : a = x := List.mem_singleton.mp ((h a).mp (by simp))
    have eb : b = x := List.mem_singleton.mp ((h b).mp (by simp))
    exact absurd (List.mem_cons_self ..) (by rw [ea, eb] at hn; exact (List.nodup_cons.mp hn).1)
def pickL (ps : List Lamp) (X : Int) (c : Col) : Lamp := (ps.find? fun l => decide (mirC X l = c)).getD ⟨0, 0, .none, 0⟩
def mirL (ps : List Lamp) (X : Int) (c : Col) : Lamp := ⟨c.1, c.2, (pickL ps X c).sh, (pickL ps X c).wt⟩
theorem mir_look {X : Int} : ∀ {ps : List Lamp} {c : Col}, (ps.map (mirC X)).Nodup → c ∈ ps.map (mirC X) → lookG (ps.map fun l => (mirC X l, restD l)) c = some (restD (pickL ps X c))
  | [], c, _, h => nomatch h
  | l :: ps, c, hn, h => by
    rw [List.map_cons] at hn h
    obtain ⟨n1, n2⟩ := List.nodup_cons.mp hn
    unfold pickL
    rw [List.map_cons, List.find?_cons]
    by_cases e : mirC X l = c
    · rw [lookG_pos (p := (mirC X l, restD l)) e, decide_eq_true e]
      rfl
    · rw [lookG_neg (p := (mirC X l, restD l)) e, decide_eq_false e]
      rcases List.mem_cons.mp h with z | z
      · exact absurd z.symm e
      · exact mir_look n2 z
theorem mirL_ok (ps : List Lamp) (X : Int) : ((((ps.map (mirC X)).mergeSort leC).map (mirL ps X)).map (·.x)).Pairwise (· ≤ ·) ∧ ((((ps.map (mirC X)).mergeSort leC).map (mirL ps X)).map (·.x)).Perm (ps.map fun l => 2 * X - l.x) ∧ (((ps.map (mirC X)).mergeSort leC).map (mirL ps X)).length = ps.length := by
  have e : (((ps.map (mirC X)).mergeSort leC).map (mirL ps X)).map (·.x) = ((ps.map (mirC X)).mergeSort leC).map (·.1) := by
    rw [List.map_map]
    rfl
  have pk := List.mergeSort_perm (ps.map (mirC X)) leC
  rw [e]
  refine ⟨?_, ?_, by rw [List.length_map, pk.length_eq, List.length_map]⟩
  · rw [List.pairwise_map]
    refine (List.pairwise_mergeSort (le := leC) (fun a b c x y => leC_trans x y) leC_tot _).imp fun {a b} h => ?_
    have := of_decide_eq_true h
    omega
  · refine (pk.map _).trans (.of_eq ?_)
    rw [List.map_map]
    rfl
theorem enum_nat (f : List Nat) : enumD (f.map natD) = (List.range f.length).map fun k => .tuple [.int (k : Nat), natD (f.getD k 0)] := by
  unfold enumD
  rw [List.length_map]
  refine List.map_congr_left fun i hi => ?_
  have hi := List.mem_range.mp hi
  rw [List.getD_eq_getElem?_getD, List.getElem?_map, List.getD_eq_getElem?_getD, List.getElem?_eq_getElem hi]
  rfl
theorem any_nat (bs : List Nat) (r : Nat) : ((bs.map natD).any fun z => PyData.eqv z (natD r)) = decide (r ∈ bs) := by
  rw [Bool.eq_iff_iff, List.any_eq_true, decide_eq_true_eq]
  constructor
  · rintro ⟨z, hz, he⟩
    obtain ⟨b, hb, rfl⟩ := List.mem_map.mp hz
    have : b = r := by
      unfold natD at he
      simp [PyData.eqv] at he
      omega
    rw [← this]
    exact hb
  · intro h
    exact ⟨natD r, List.mem_map_of_mem h, by unfold natD; simp [PyData.eqv]⟩
theorem sh_nats (bs : List Nat) : SeqAt.shaped (.list (bs.map natD)) = true := sh_lst 0 (by decide) fun d hd => by
  obtain ⟨r, _, rfl⟩ := List.mem_map.mp hd
  exact laid_int _
theorem sh_nat (r : Nat) : SeqAt.shaped (natD r) = true := by
  unfold natD SeqAt.shaped
  simp [PyData.canLay0, PyData.depth]
theorem has_sum {n : Nat} {L : List (List Nat)} {f : List Nat} {rs : List Nat} (h : rs.length ≤ 7) (hf : f.length < n) :
    ((L ++ rs.map fun r => f ++ [r]).map fun f => 7 ^ (n - f.length)).sum ≤ ((L ++ [f]).map fun f => 7 ^ (n - f.length)).sum ∧
    ((L ++ rs.map fun r => f ++ [r]).map fun f => 8 ^ (n - f.length)).sum < ((L ++ [f]).map fun f => 8 ^ (n - f.length)).sum := by
  have key : ∀ (b : Nat) (rs : List Nat), ((rs.map fun r => f ++ [r]).map fun f => b ^ (n - f.length)).sum = rs.length * b ^ (n - (f.length + 1)) := fun b rs => by
    induction rs with
    | nil => simp
    | cons r rs ih =>
      rw [List.map_cons, List.map_cons, List.sum_cons, ih, List.length_append, List.length_singleton, List.length_cons, Nat.add_mul]
      omega
  have e : n - f.length = (n - (f.length + 1)) + 1 := by omega
  rw [List.map_append, List.map_append, List.map_append, List.map_append, List.sum_append, List.sum_append, List.sum_append, List.sum_append, key, key]
  simp only [List.map_singleton, List.sum_singleton]
  rw [e, Nat.pow_succ, Nat.pow_succ]
  have p7 : 0 < 7 ^ (n - (f.length + 1)) := Nat.pow_pos (by decide)
  have p8 : 0 < 8 ^ (n - (f.length + 1)) := Nat.pow_pos (by decide)
  generalize 7 ^ (n - (f.length + 1)) = a at *
  generalize 8 ^ (n - (f.length + 1)) = b at *
  have h7 := Nat.mul_le_mul_right a h
  have h8 := Nat.mul_le_mul_right b h
  omega
theorem many_le {s : Int} (xs : List Int) : manyR s xs ≤ xs.length := by
  unfold manyR
  rcases topI_at (rowsOf s xs) with z | ⟨r, hr, z⟩
  · omega
  · have := row_le s xs r hr
    omega
theorem rows_few {s : Int} {xs : List Int} (h : xs.length ≤ 20) : (rowsOf s xs).length ≤ 40 ∧ ∀ r ∈ rowsOf s xs, r ≤ 40 :=
  ⟨by rw [rows_len]; omega, fun r hr => by have := row_le s xs r hr; omega⟩
theorem many_less {s : Int} (hs : 0 < s) {ps : List Lamp} (hA : Asc ps) (i : Nat) (hi : i ≤ ps.length) :
    ((manyR s (ps.map (·.x)) : Nat) : Int) - 1 ≤ ((manyR s ((ps.take i ++ ps.drop (i + 1)).map (·.x)) : Nat) : Int) ∧ ((manyR s ((ps.take i ++ ps.drop (i + 1)).map (·.x)) : Nat) : Int) ≤ ((manyR s (ps.map (·.x)) : Nat) : Int) := by
  by_cases h : i < ps.length
  · have e : ps = ps.take i ++ ps[i] :: ps.drop (i + 1) := by
      rw [← List.drop_eq_getElem_cons h, List.take_append_drop]
    have hB : Asc (ps.take i ++ ps.drop (i + 1)) := hA.sub (by
      conv => rhs; rw [e]
      exact (List.Sublist.refl _).append (List.sublist_cons_self ..))
    have o1 := rows_om hs hA.up
    have o2 := rows_om hs hB.up
    have e2 : ps.map (·.x) = (ps.take i).map (·.x) ++ ps[i].x :: (ps.drop (i + 1)).map (·.x) := by
      conv => lhs; rw [e]
      rw [List.map_append, List.map_cons]
    rw [List.map_append] at o2 ⊢
    generalize manyR s (ps.map (·.x)) = M at *
    rw [e2] at o1
    exact om_less o1 o2
  · have ei : i = ps.length := by omega
    subst ei
    rw [List.take_length, List.drop_eq_nil_of_le (by omega), List.append_nil]
    omega
theorem many_wide {s : Int} (hs : 0 < s) {ps : List Lamp} (hA : Asc ps) : manyR s (ps.map (·.x)) ≤ manyR (s + 1) (ps.map (·.x)) := by
  have := om_wide (rows_om hs hA.up) (rows_om (by omega) hA.up)
  omega
theorem many_same {s : Int} (hs : 0 < s) {ps qs : List Lamp} (hA : Asc ps) (hq : (qs.map (·.x)).Pairwise (· ≤ ·)) (h : ∀ m, IsOm s (ps.map (·.x)) m → IsOm s (qs.map (·.x)) m) :
    manyR s (qs.map (·.x)) = manyR s (ps.map (·.x)) ∧ ∀ m, IsOm s (qs.map (·.x)) m → m = ((manyR s (ps.map (·.x)) : Nat) : Int) := by
  have o := h _ (rows_om hs hA.up)
  have o2 := rows_om hs hq
  have := om_one o o2
  exact ⟨by omega, fun m hm => om_one hm o⟩
theorem moved_same {s X Z : Int} (hs : 0 < s) {ps : List Lamp} (hA : Asc ps) : manyR s ((ps.map (movL X Z)).map (·.x)) = manyR s (ps.map (·.x)) ∧ ∀ m, IsOm s ((ps.map (movL X Z)).map (·.x)) m → m = ((manyR s (ps.map (·.x)) : Nat) : Int) := by
  have e : (ps.map (movL X Z)).map (·.x) = (ps.map (·.x)).map fun x => x + X := by
    rw [List.map_map, List.map_map]
    rfl
  refine many_same hs hA ?_ fun m hm => ?_
  · rw [e, List.pairwise_map]
    exact hA.up.imp fun {a b} h => by omega
  · rw [e]
    exact om_move hm
theorem mir_same {s X : Int} (hs : 0 < s) {ps qs : List Lamp} (hA : Asc ps) (h1 : (qs.map (·.x)).Pairwise (· ≤ ·)) (h2 : (qs.map (·.x)).Perm (ps.map fun l => 2 * X - l.x)) : manyR s (qs.map (·.x)) = manyR s (ps.map (·.x)) ∧ ∀ m, IsOm s (qs.map (·.x)) m → m = ((manyR s (ps.map (·.x)) : Nat) : Int) := by
  refine many_same hs hA h1 fun m hm => om_perm h2.symm ?_
  have e : ps.map (fun l => 2 * X - l.x) = (ps.map (·.x)).map fun x => 2 * X - x := by
    rw [List.map_map]
    rfl
  rw [e]
  exact om_mirror hm
theorem both_same {s : Int} (hs : 0 < s ∧ s ≤ 5) {ps qs : List Lamp} (hA : Asc ps) (hB : Asc qs) (h1 : ∀ l ∈ ps, Bp l) (h2 : ∀ l ∈ qs, Bp l) :
    ((manyR s ((ps ++ qs.map farL).map (·.x)) : Nat) : Int) = if ((manyR s ((qs.map farL).map (·.x)) : Nat) : Int) > ((manyR s (ps.map (·.x)) : Nat) : Int) then ((manyR s ((qs.map farL).map (·.x)) : Nat) : Int) else ((manyR s (ps.map (·.x)) : Nat) : Int) := by
  have far : ∀ y ∈ (qs.map farL).map (·.x), 900 ≤ y := fun y hy => by
    obtain ⟨l, hl, rfl⟩ := List.mem_map.mp hy
    obtain ⟨o, ho, rfl⟩ := List.mem_map.mp hl
    have := (h2 o ho).1
    show 900 ≤ o.x + 1000
    omega
  have near : ∀ x ∈ ps.map (·.x), x < 101 := fun x hx => by
    obtain ⟨l, hl, rfl⟩ := List.mem_map.mp hx
    have := (h1 l hl).1
    omega
  have up2 : ((qs.map farL).map (·.x)).Pairwise (· ≤ ·) := by
    have e : (qs.map farL).map (·.x) = (qs.map (·.x)).map fun x => x + 1000 := by
      rw [List.map_map, List.map_map]
      rfl
    rw [e, List.pairwise_map]
    exact hB.up.imp fun {a b} h => by omega
  have up3 : ((ps ++ qs.map farL).map (·.x)).Pairwise (· ≤ ·) := by
    rw [List.map_append]
    refine List.pairwise_append.mpr ⟨hA.up, up2, fun x hx y hy => ?_⟩
    have := near x hx
    have := far y hy
    omega
  have o1 := rows_om hs.1 hA.up
  have o2 := rows_om hs.1 up2
  have o3 := rows_om hs.1 up3
  rw [List.map_append] at o3
  have := om_both o1 o2 o3 (c := 101) near fun y hy => by have := far y hy; omega
  rw [List.map_append, this]
  split <;> split <;> omega
theorem cut_takeX (ds : List PyData) (r : Nat) : cutD ds none (some ((r : Nat) : Int)) = ds.take r := by
  unfold cutD
  have e1 : HT.sIx ds.length 0 none = 0 := by unfold HT.sIx; rfl
  have e2 : HT.sIx ds.length ds.length (some ((r : Nat) : Int)) = min r ds.length := by
    unfold HT.sIx
    dsimp only
    rw [if_neg (by omega)]
    omega
  rw [e1, e2, List.drop_zero, Nat.sub_zero]
  by_cases h : r ≤ ds.length
  · rw [Nat.min_eq_left h]
  · rw [Nat.min_eq_right (by omega), List.take_length, List.take_of_length_le (by omega)]
end My

/-! own layer: a lambda of one parameter, handed to a def ahead of other arguments -/
namespace Dl
variable [LamT]
open PySem PySem.Spec L2 PyProof.Rows
/-! ### its names: one parameter, captured ones, globals -/
structure LamS1 (sc scope : Scope) (a : Str) : Prop where
  kind : scope.kind = .function
  co : scope.isCoroutine = false
  gen : scope.isGenerator = false
  par : scope.names.lookup a = some .local
  loc : ∀ y ∈ scope.names, y.2 = .local → y.1 = a
  cell : ∀ y ∈ scope.names, y.2 ≠ .cell
  free : ∀ y ∈ scope.names, y.2 = .free → sc.names.lookup y.1 = some .cell ∨ sc.names.lookup y.1 = some .free
def lamS1B (sc scope : Scope) (a : Str) : Bool :=
  decide (scope.kind = .function) && !scope.isCoroutine && !scope.isGenerator && decide (scope.names.lookup a = some .local) && scope.names.all fun y => (!decide (y.2 = .local) || decide (y.1 = a)) && !decide (y.2 = .cell) && (!decide (y.2 = .free) || decide (sc.names.lookup y.1 = some .cell) || decide (sc.names.lookup y.1 = some .free))
theorem lamS1_by {sc scope : Scope} {a : Str} (h : lamS1B sc scope a = true) : LamS1 sc scope a := by
  unfold lamS1B at h
  simp only [Bool.and_eq_true, Bool.or_eq_true, Bool.not_eq_true', decide_eq_true_eq, decide_eq_false_iff_not, List.all_eq_true] at h
  obtain ⟨⟨⟨⟨h1, h2⟩, h3⟩, h5⟩, h4⟩ := h
  refine ⟨h1, h2, h3, h5, fun y hy e => ?_, fun y hy => (h4 y hy).1.2, fun y hy e => ?_⟩
  · rcases (h4 y hy).1.1 with z | z
    · exact absurd e z
    · exact z
  · rcases (h4 y hy).2 with (z | z) | z
    · exact absurd e z
    · exact .inl z
    · exact .inr z
theorem LamS1.has {X : Cx} {scope : Scope} {a : Str} (L : LamS1 X.env.scope scope a) (ok : X.Ok) : ∀ y ∈ scope.names, y.2 = .free → ∃ c, X.env.cells.lookup y.1 = some c := fun y hy e => by
  rcases L.free y hy e with k | k
  · exact ok.has _ (.inl k)
  · exact ok.has _ (.inr k)
/-- the context of its body -/
def lamCx1 (X : Cx) (A : Around) (outer : List Env) (s : Shared) (H : Hp) (scope : Scope) (f c' : Addr) (a : Str) : Cx := { LamX.lamCx X A outer s H (fun _ _ _ => False) scope f c' with N := X.N ++ [a] }
section
variable {X : Cx} {pins : List (Addr × Obj)} {σ : L2.St} {H HZ : Hp} {s s1 : Shared}
theorem lam_start1 {A : Around} {outer : List Env} {scope : Scope} {f c' : Addr} {a : Str} {v : V} {u : Value} {h₁ : Heap} {tk : Nat} (I : Inv X pins σ H s) (L : LamS1 X.env.scope scope a) (hna : a ∉ X.N) (rv : RelV v u) (e0 : Env0 X.prog X.w X.K X.mg X.base A outer s1 HZ) (hd : A.handled = none)
    (un : Un (frs X.stack) [] H HZ s.heap s1.heap) (hns : h₁.Ns s1.heap.objs.size fun y => ([(a, u)] : List (Str × Value)).reverse.lookup y) (kp : ∀ b o, s1.heap.get? b = some o → h₁.get? b = some o) :
    Inv (lamCx1 X A outer s1 HZ scope f c' a) [] (σ ++ [some v]) HZ { s1 with heap := h₁, toks := tk } := by
  have hfree := L.has I.ok
  have incl : ∀ {y c}, (cloFrom X.env.cells scope.names []).lookup y = some c → X.env.cells.lookup y = some c := fun {y c} e => by
    rcases cloFrom_mem (PySem.mem_of_lookup e) with hm | ⟨h1, h2⟩
    · cases hm
    · obtain ⟨c1, hc⟩ := hfree _ h1 rfl
      have hc : X.env.cells.lookup y = some c1 := hc
      have e2 : c = c1 := by
        rw [h2, hc] <;> rfl
      rw [e2]
      exact hc
  have look : ∀ {y}, scope.names.lookup y = some .free → ∃ c, (cloFrom X.env.cells scope.names []).lookup y = some c := fun {y} hl => by
    have hy : (y, NameKind.free) ∈ scope.names := PySem.mem_of_lookup hl
    exact mem_lookup (cloFrom_has (cells := X.env.cells) (acc := []) hy)
  have cellK : ∀ {c : Addr} {v : Option Value}, H c = none → s.heap.IsCell c v → h₁.IsCell c v := fun {c v} n ⟨o, ho, hd⟩ => by
    obtain ⟨sl, q⟩ := un.any ho n (by simp)
    exact ⟨_, kp _ _ q, hd⟩
  have noA : ∀ b : Addr, b ∉ (lamCx1 X A outer s1 HZ scope f c' a).ex := fun b z => absurd (show b ∈ ([] : List Addr) from z) (by simp)
  refine ⟨⟨e0.mod, L.kind, rfl, rfl, Nat.le_refl _, fun y z c e1 e2 => I.ok.inj y z c (incl e1) (incl e2), fun y hy => ?_, fun y c z _ => ?_, fun _ => hd, Around.frames_deeper e0.frames, .inr ⟨rfl, rfl⟩, fun b z => absurd z (noA b), e0.bs, e0.bsz, fun b _ _ => noA b,
      fun b z => absurd z (noA b), e0.funs, e0.frf⟩,
    rfl, e0.bare, Un.kept kp, ⟨_, hns, fun i y w e1 e2 e3 => ?_⟩, fun y c e => ?_, e0.hok.fresh (Nat.le_refl _), fun y c e => ?_, fun q hq => absurd (show q ∈ ([] : List (Addr × Obj)) ++ [] from hq) (by simp), e0.hok.kept kp, ?_⟩
  · have hy : scope.names.lookup y = some .cell ∨ scope.names.lookup y = some .free := hy
    rcases hy with hy | hy
    · exact absurd rfl (L.cell _ (PySem.mem_of_lookup hy))
    · exact look hy
  · have z : false = true := z
    cases z
  · have e3 : Vis scope y := e3
    have e1 : (X.N ++ [a])[i]? = some y := e1
    rcases e3 with k | k | k
    · have ey : y = a := L.loc _ (PySem.mem_of_lookup k) rfl
      subst ey
      have hi : i = X.N.length := by
        by_cases hl : i < X.N.length
        · rw [List.getElem?_append_left hl] at e1
          exact absurd (List.mem_of_getElem? e1) hna
        · have := (List.getElem?_eq_some_iff.mp e1).1
          rw [List.length_append, List.length_singleton] at this
          omega
      rw [hi, ← I.len, List.getElem?_append_right (Nat.le_refl _), Nat.sub_self] at e2
      cases e2
      refine ⟨u, rv, .inl ⟨k, ?_⟩⟩
      show ([(y, u)] : List (Str × Value)).reverse.lookup y = some u
      simp
    · exact absurd rfl (L.cell _ (PySem.mem_of_lookup k))
    · have hne : y ≠ a := fun z => by
        rw [z, L.par] at k
        cases k
      have hl : i < X.N.length := by
        refine Nat.lt_of_not_le fun hge => hne ?_
        rw [List.getElem?_append_right hge] at e1
        exact List.mem_singleton.mp (List.mem_of_getElem? e1)
      rw [List.getElem?_append_left hl] at e1
      rw [List.getElem?_append_left (by rw [I.len]; exact hl)] at e2
      obtain ⟨m, hn, hlo⟩ := I.loc
      have hvis : Vis X.env.scope y := (L.free _ (PySem.mem_of_lookup k) rfl).elim (fun k => .inr (.inl k)) (fun k => .inr (.inr k))
      obtain ⟨w', r, q⟩ := hlo i y w e1 e2 hvis
      obtain ⟨c2, h2⟩ := look k
      refine ⟨w', r, .inr ⟨.inr k, c2, h2, ?_⟩⟩
      have c1 := incl h2
      rcases q with ⟨k', _⟩ | ⟨_, c3, e', z⟩
      · have k' : X.env.scope.names.lookup y = some .local := k'
        rcases L.free _ (PySem.mem_of_lookup k) rfl with k2 | k2 <;> rw [show X.env.scope.names.lookup y = _ from k2] at k' <;> cases k'
      · rw [c1] at e'
        cases e'
        exact cellK (I.freeC y _ c1) z
  · obtain ⟨w', z⟩ := I.cell y c (incl e)
    exact ⟨w', cellK (I.freeC y c (incl e)) z⟩
  · obtain ⟨v, o, ho, hd⟩ := I.cell y c (incl e)
    exact un.free c o ho (I.freeC y c (incl e)) (by simp)
  · show (σ ++ [some v]).length = (X.N ++ [a]).length
    rw [List.length_append, List.length_append, I.len]
    rfl
/-- x(e), in the def that got the lambda -/
def tAct (i : Nat) (f c' : Addr) (q : Str) (ta : TA) (tb : V → Hp → VK → Prop) : TE := fun σ H Q => σ[i]? = some (some (.ref f)) ∧ ta σ H fun vs H1 => ∃ v, vs = [v] ∧ H1 c' = some (LamX.CodeO c' q) ∧ tb v H1 Q
theorem pe_act1 {Ng : List Str} {qg : Str} {sg : Scope} {g f c' : Addr} {cdg pm ctv : Value} {params : Arguments} {body : Expr} {scope : Scope} {k i : Nat} {a x : Str} {t : V → TE} {ta : TA} {e : Expr} {p1 p2 : Pos} {Eg : XK}
    (I : Inv X pins σ H s) (L : LamS1 X.env.scope scope a) (hna : a ∉ X.N) (hf : s.heap.get? f = some (PySem.W.kla_obj "<lambda>" (X.env.qual ++ "<lambda>") params body scope (cloFrom X.env.cells scope.names []) pm c' ctv)) (hfn : H f = none) (hfr : f ∉ frs X.stack)
    (hbind : ∀ u : Value, bindArgs (PySem.W.kla_fn "<lambda>" (X.env.qual ++ "<lambda>") params body scope (cloFrom X.env.cells scope.names []) pm (.ref c') ctv) ⟨[u], []⟩ = pure [(a, u)])
    (hr : Room (k + 1) (X.A.deeper (envOfC qg sg s.heap.objs.size g cdg)))
    (hbody : ∀ (A : Around) (outer : List Env) (s : Shared) (H : Hp) (v : V), A.guards = X.A.guards → Room k (A.deeper (LamX.lamEnv X scope s.heap.objs.size f c')) → PE (lamCx1 X A outer s H scope f c' a) body (t v))
    (ha : PA (cxOf CX0 X.prog X.w X.K X.mg X.base Ng qg sg g cdg X.A X.stack s H Eg).nox [e] ta) (hN : Ng[i]? = some x) (hv : Vis sg x)
    (he : starEach [e] (cxOf CX0 X.prog X.w X.K X.mg X.base Ng qg sg g cdg X.A X.stack s H Eg).nox.env = (false, eval e (cxOf CX0 X.prog X.w X.K X.mg X.base Ng qg sg g cdg X.A X.stack s H Eg).nox.env) :: starEach [] (cxOf CX0 X.prog X.w X.K X.mg X.base Ng qg sg g cdg X.A X.stack s H Eg).nox.env := by rfl)
    (hd : (x == ("__debug__" : Str)) = false := by decide) (hcd : (x == ("__classdict__" : Str)) = false := by decide) :
    PE (cxOf CX0 X.prog X.w X.K X.mg X.base Ng qg sg g cdg X.A X.stack s H Eg).nox (.Call (.Name x p1) [e] [] p2) (tAct i f c' (X.env.qual ++ "<lambda>") ta fun v H1 Q => t v (σ ++ [some v]) H1 Q) := by
  refine ⟨fun pinsZ sZ σZ HZ Q IZ h => ?_⟩
  obtain ⟨hs, ht⟩ := h
  refine wpAny_Call_Name_kw (thn ((pe_var (pos := p1) (i := i) hN hv hd hcd).run pinsZ sZ σZ HZ (fun v H1 => v = .ref f ∧ H1 = HZ) IZ ⟨.ref f, hs, rfl, rfl⟩) fun u s1 ⟨v, H1, I1, r1, q1⟩ => ?_)
  obtain ⟨ev, eH⟩ := q1
  subst ev
  rw [eH] at I1
  obtain rfl : u = Value.ref f := r1
  have of1 : s1.heap.get? f = some (PySem.W.kla_obj "<lambda>" (X.env.qual ++ "<lambda>") params body scope (cloFrom X.env.cells scope.names []) pm c' ctv) := I1.base.keep f _ hf hfn hfr (fun z => nomatch (show f ∈ ([] : List Addr) from z))
  refine PySem.W.callWith_F ⟨_, _, _, _, of1⟩ (thn (ha.run p2 pinsZ s1 σZ HZ _ I1 ht) fun us s2 ⟨vs, H2, I2, rvs, q⟩ => ?_) he (by rfl)
  obtain ⟨v, rfl, hc, q⟩ := q
  have of2 : s2.heap.get? f = some (PySem.W.kla_obj "<lambda>" (X.env.qual ++ "<lambda>") params body scope (cloFrom X.env.cells scope.names []) pm c' ctv) := I2.base.keep f _ hf hfn hfr (fun z => nomatch (show f ∈ ([] : List Addr) from z))
  refine ⟨⟨_, _, _, _, of2⟩, ?_⟩
  obtain ⟨u2, rfl, rv⟩ := vals1 rvs
  have un : Un (frs X.stack) [] H H2 s.heap s2.heap := I2.base
  obtain ⟨⟨oc, ws, tq, hoc, hdc, hvc⟩, _, _⟩ := I2.hok c' _ hc
  have rc : codeAny (model X.prog X.w) (X.A.deeper (envOfC qg sg s.heap.objs.size g cdg)) (.call (.ref f) ⟨[u2], []⟩) (CR (L2.CX X.prog X.w) (envOfC qg sg s.heap.objs.size g cdg :: X.stack) X.prog X.w H2 s2 Q fun _ _ _ => False) s2 := by
    refine PySem.W.kla_callFunE hr.depth of2 rfl L.co L.gen rfl ⟨c', oc, ws, tq, rfl, hoc, hdc, hvc⟩ ?_
    rw [hbind]
    refine wpAny_pure (wpAny_newFunctionEnv (fun y hy => L.cell y hy) (fun y hy => ?_) (fun h₁ hns hsb => ⟨I2.nolimit.fresh _ hsb, ?_⟩) L.kind)
    · rw [List.mem_singleton.mp hy]
      exact L.par
    show codeAny _ _ (.expr body (LamX.lamEnv X scope s2.heap.objs.size f c')) _ _
    have kp : ∀ b o, s2.heap.get? b = some o → h₁.get? b = some o := fun b o e => hsb.extBut b o (Nat.ne_of_lt (Heap.lt_size e)) (Heap.get?_push_of_some _ e)
    have J : Inv (lamCx1 X (X.A.deeper (envOfC qg sg s.heap.objs.size g cdg)) (envOfC qg sg s.heap.objs.size g cdg :: X.stack) s2 H2 scope f c' a) [] (σ ++ [some v]) H2 { s2 with heap := h₁, toks := s2.toks + ([(a, u2)] : List (Str × Value)).length } :=
      lam_start1 I L hna rv I2.env0 hr.hd un hns kp
    refine PySem.W.kla_codeExpr (wpAny_mono ((hbody (X.A.deeper (envOfC qg sg s.heap.objs.size g cdg)) _ s2 H2 v rfl (hr.deeper _)).run [] _ _ H2 Q J q) (fun v s' hq => ?_) fun e s' hq => hq)
    obtain ⟨w', H', J', rv', q'⟩ := hq
    exact ⟨w', H', J'.os, J'.bare, J'.base, J'.hok, rv', q'⟩
  refine wpAny_call (codeAny_mono rc fun r s' hq => ?_)
  match r, hq with
  | .error e, hq =>
    obtain ⟨_, _, _, _, _, _, _, _, _, _, _, _, z⟩ := hq
    exact z.elim
  | .ok (.ret u), hq => exact I2.after hq
  | .ok .next, hq => exact False.elim hq
  | .ok .brk, hq => exact False.elim hq
  | .ok .cont, hq => exact False.elim hq
/-! ### the making -/
theorem same_tab {P c : Addr} {q : Str} {ps qs : Array Value} (hP : H P = some (.tbl ps)) (hc : H c = none) (hm : (P, q) ∈ LamT.T) (hu : ∀ p ∈ LamT.T, p.1 = P → p.2 = q)
    (ht : TriplesOk qs.toList) (ha : ∀ (pos : Pos) (cv : Value), codeAmong pos qs.toList = some cv → codeAmong pos ps.toList = some cv ∨ cv = .ref c) : Same H (upd (upd H P (.tbl qs)) c (LamX.CodeO c q)) := by
  have hPc : P ≠ c := fun z => by
    rw [z, hc] at hP
    cases hP
  have oth : ∀ {b u}, H b = some u → isTbl u = false → upd (upd H P (.tbl qs)) c (LamX.CodeO c q) b = some u := fun {b u} hb k => by
    have n1 : b ≠ c := fun z => by
      rw [z, hc] at hb
      cases hb
    have n2 : b ≠ P := fun z => by
      rw [z, hP] at hb
      cases hb
      cases k
    rw [upd_ne n1, upd_ne n2]
    exact hb
  have atP : upd (upd H P (.tbl qs)) c (LamX.CodeO c q) P = some (.tbl qs) := by rw [upd_ne hPc, upd_same]
  refine ⟨fun b u hb k => oth hb k, fun b us hb => ?_, fun t p hp => ?_⟩
  · by_cases e : b = P
    · exact ⟨qs, e ▸ atP⟩
    · refine ⟨us, ?_⟩
      have n1 : b ≠ c := fun z => by
        rw [z, hc] at hb
        cases hb
      rw [upd_ne n1, upd_ne e]
      exact hb
  · obtain ⟨us, a1, a2, a3⟩ := t p hp
    by_cases e : p.1 = P
    · have eq := hu p hp e
      rw [e] at a1 ⊢
      rw [hP] at a1
      cases a1
      refine ⟨qs, atP, ht, fun pos cv hcv => ?_⟩
      rcases ha pos cv hcv with z | z
      · obtain ⟨c0, e1, e2⟩ := a3 pos cv z
        exact ⟨c0, e1, oth e2 rfl⟩
      · rw [eq]
        exact ⟨c, z, upd_same⟩
    · refine ⟨us, ?_, a2, fun pos cv hcv => ?_⟩
      · have n1 : p.1 ≠ c := fun z => by
          rw [z, hc] at a1
          cases a1
        rw [upd_ne n1, upd_ne e]
        exact a1
      · obtain ⟨c0, e1, e2⟩ := a3 pos cv hcv
        exact ⟨c0, e1, oth e2 rfl⟩
theorem lam_make1 {c P : Addr} {params : Arguments} {body : Expr} {scope : Scope} {pos : Pos} {E : Value → Shared → Prop} {Q : Value → Shared → Prop} (I : Inv X pins σ H s) (TB : LamX.TabB X.base X.mg c P) (hcode : X.env.code = .ref c)
    (hm : (P, X.env.qual ++ "<lambda>") ∈ LamT.T) (hu : ∀ p ∈ LamT.T, p.1 = P → p.2 = X.env.qual ++ "<lambda>") (hT : LamX.Tabs LamT.T H) (hdef : defaultsOf params X.env = ([], [])) (hfree : ∀ y ∈ scope.names, y.2 = .free → ∃ c, X.env.cells.lookup y.1 = some c)
    (h : ∀ (f c' : Addr) (pm ctv : Value) (H1 : Hp) (s' : Shared), Inv X pins σ H1 s' → Same H H1 → s.heap.objs.size ≤ f →
      s'.heap.get? f = some (PySem.W.kla_obj "<lambda>" (X.env.qual ++ "<lambda>") params body scope (cloFrom X.env.cells scope.names []) pm c' ctv) → H1 f = none → H1 c' = some (LamX.CodeO c' (X.env.qual ++ "<lambda>")) → Q (.ref f) s') :
    wpAny (model X.prog X.w) X.A (eval (.Lambda params body scope pos) X.env) Q E s := by
  obtain ⟨ps, hP, ht, ha⟩ := hT _ hm
  have bP : s.heap.BuiltinsAt X.mg P := TB.bm.keeps I.bk
  have hP' : s.heap.get? P = some { cls := .none, data := .fields ps } := I.hok P _ hP
  refine PySem.W.kla_eval hdef ?_
  cases hc : codeAmong pos ps.toList with
  | some cv =>
    obtain ⟨c', rfl, hco⟩ := ha pos cv hc
    refine PySem.W.kla_makeFunctionHit (mg := X.mg) (c := c) (P := P) (ps := ps) (closure_ok hfree) I.ok.glob (I.mod.glob.keeps I.bk) hcode (TB.code.keeps I.bk) hP' ht hc bP fun ctv h' tk hx hsz => ?_
    have J : Inv X pins σ H { s with heap := h'.push (PySem.W.kla_obj "<lambda>" (X.env.qual ++ "<lambda>") params body scope (cloFrom X.env.cells scope.names []) ((X.mg "__name__").getD .none) c' ctv), toks := tk } := I.kept fun b o e => Heap.get?_push_of_some _ (hx b o e)
    exact h h'.objs.size c' ((X.mg "__name__").getD .none) ctv H _ J (Same.refl H) hsz (Heap.get?_push_size _ rfl) (I.hok.fresh hsz) hco
  | none =>
    refine PySem.W.kla_makeFunction (mg := X.mg) (c := c) (P := P) (ps := ps) (closure_ok hfree) I.ok.glob (I.mod.glob.keeps I.bk) hcode (TB.code.keeps I.bk) hP' ht hc TB.gP bP fun c' ctv h' tk hx hge hlt hrec htb => ?_
    obtain ⟨c2, oc, ws, tq, e2, hoc, hd, hv⟩ := hrec
    cases e2
    have hsz : s.heap.objs.size ≤ h'.objs.size := Nat.le_trans hge (Nat.le_of_lt hlt)
    have nC : H c' = none := I.hok.fresh hge
    have eL : (ps ++ #[rawInt pos.line, rawInt pos.col, .ref c']).toList = ps.toList ++ [rawInt pos.line, rawInt pos.col, .ref c'] := by simp
    have J := LamX.inv_table (t' := tk) (more := #[rawInt pos.line, rawInt pos.col, .ref c']) (q := X.env.qual ++ "<lambda>") (h' := h'.push (PySem.W.kla_obj "<lambda>" (X.env.qual ++ "<lambda>") params body scope (cloFrom X.env.cells scope.names []) ((X.mg "__name__").getD .none) c' ctv)) I hP
      (fun b o hb e => Heap.get?_push_of_some _ (hx b o hb e)) (Heap.get?_push_of_some _ htb) hge ⟨oc, ws, tq, Heap.get?_push_of_some _ hoc, hd, hv⟩
    have S := same_tab (qs := ps ++ #[rawInt pos.line, rawInt pos.col, .ref c']) hP nC hm hu (by rw [eL]; exact PySem.TriplesOk_snoc _ _ _ _ ht) fun p' cv hcv => by
      rw [eL] at hcv
      exact LamX.among_app _ ht hcv
    refine h h'.objs.size c' ((X.mg "__name__").getD .none) ctv _ _ J S hsz (Heap.get?_push_size _ rfl) ?_ upd_same
    have n1 : h'.objs.size ≠ c' := Nat.ne_of_gt hlt
    have n2 : h'.objs.size ≠ P := Nat.ne_of_gt (Nat.lt_of_lt_of_le (Heap.lt_size hP') hsz)
    rw [upd_ne n1, upd_ne n2]
    exact I.hok.fresh hsz
end
/-- the def that is given the lambda: a calls it; TT: what it makes of it -/
def GivesG (P : Program) (w : World) (K : PySem.W.Frag) (mg : Str → Option Value) (base : Heap) (n : Nat) (x : Str) (st : Stmt) (g : Addr) (N : List Str) (a q : Str) (TT : (V → Hp → VK → Prop) → List V → Hp → VK → Prop) : Prop :=
  ∀ (cdv : Value) (A : Around) (outer : List Env) (s : Shared) (H : Hp) (f c' : Addr) (vs : List V) (Q : VK) (tl : V → Hp → VK → Prop), A.guards = some [] → Room n (A.deeper (PyProof.Rows.envOfC x (defScope st) s.heap.objs.size g cdv)) →
    (∀ (e : Expr) (ta : TA) (p1 p2 : Pos), PA (cxOf CX0 P w K mg base N x (defScope st) g cdv A outer s H E0).nox [e] ta →
      (starEach [e] (cxOf CX0 P w K mg base N x (defScope st) g cdv A outer s H E0).nox.env = (false, eval e (cxOf CX0 P w K mg base N x (defScope st) g cdv A outer s H E0).nox.env) :: starEach [] (cxOf CX0 P w K mg base N x (defScope st) g cdv A outer s H E0).nox.env) →
      PE (cxOf CX0 P w K mg base N x (defScope st) g cdv A outer s H E0).nox (.Call (.Name a p1) [e] [] p2) (tAct 0 f c' q ta tl)) →
    H c' = some (LamX.CodeO c' q) → TT tl vs H Q →
    ∃ t, PSs (cxOf CX0 P w K mg base N x (defScope st) g cdv A outer s H E0).nox (defBody st) t ∧ t { nx := fun _ H' => Q .non H', rt := Q } (start N (.ref f :: vs)) H
/-- x(lambda b: body, e, ..) -/
def tLam1 (q : Str) (m : Nat) (TT : (V → Hp → VK → Prop) → List V → Hp → VK → Prop) (t : V → TE) (ta : TA) : TE := fun σ H Q => LamX.Tabs LamT.T H ∧ ∀ c' H1, Same H H1 → H1 c' = some (LamX.CodeO c' q) →
  ta σ H1 fun vs H2 => vs.length = m ∧ H2 c' = some (LamX.CodeO c' q) ∧ TT (fun v H3 Q' => t v (σ ++ [some v]) H3 Q') vs H2 Q
section
variable {X : Cx}
theorem pe_lamcall1 {TT : (V → Hp → VK → Prop) → List V → Hp → VK → Prop} {x a b : Str} {st : Stmt} {g c P : Addr} {fd : FuncData} {k : Nat} {N ps : List Str} {params : Arguments} {body : Expr} {scope : Scope} {t : V → TE} {ta : TA} {es : List Expr} {p lpos pos : Pos}
    (F : L2.Fun X.K x x st g fd) (Sg : FnScope N (a :: ps) (defScope st)) (hb : Binds X.K fd (a :: ps) []) (hm : X.mg x = some (.ref g)) (hG : X.A.guards = some []) (hr : Room (k + 2) X.A)
    (G : GivesG X.prog X.w X.K X.mg X.base (k + 1) x st g N a (X.env.qual ++ "<lambda>") TT)
    (TB : LamX.TabB X.base X.mg c P) (hcode : X.env.code = .ref c) (hmT : (P, X.env.qual ++ "<lambda>") ∈ LamT.T) (hu : ∀ p ∈ LamT.T, p.1 = P → p.2 = X.env.qual ++ "<lambda>") (L : LamS1 X.env.scope scope b) (hna : b ∉ X.N) (hdef : defaultsOf params X.env = ([], []))
    (hbind : ∀ (u : Value) (q : Str) (cl : List (Str × Addr)) (pm cv ctv : Value), bindArgs (PySem.W.kla_fn "<lambda>" q params body scope cl pm cv ctv) ⟨[u], []⟩ = pure [(b, u)])
    (hbody : ∀ (A : Around) (outer : List Env) (s : Shared) (H : Hp) (f c' : Addr) (v : V), A.guards = some [] → Room k (A.deeper (LamX.lamEnv X scope s.heap.objs.size f c')) → PE (lamCx1 X A outer s H scope f c' b) body (t v))
    (ha : PA X es ta) (hg : Gl X x := by rfl) (hN : N[0]? = some a := by rfl)
    (he : starEach (.Lambda params body scope lpos :: es) X.env = (false, eval (.Lambda params body scope lpos) X.env) :: starEach es X.env := by rfl) (hpl : (backTo pos (starEach es X.env)).any (·.1) = false := by rfl)
    (hdb : (x == ("__debug__" : Str)) = false := by decide) (hd : (a == ("__debug__" : Str)) = false := by decide) (hcd : (a == ("__classdict__" : Str)) = false := by decide) :
    PE X (.Call (.Name x p) (.Lambda params body scope lpos :: es) [] pos) (tLam1 (X.env.qual ++ "<lambda>") ps.length TT t ta) := by
  refine ⟨fun pins s σ H Q I h => ?_⟩
  obtain ⟨hT, h⟩ := h
  refine wpAny_Call_Name_kw (ld_glob I hg hm ?_ hdb)
  refine PySem.W.callWith_K (h₀ := X.base) I.ok.mod.kin F.kp ?_ he hpl
  rw [he]
  show wpAny _ _ (spliced ((false, eval (.Lambda params body scope lpos) X.env) :: backTo pos (starEach es X.env))) _ _ s
  refine Calls.spliced_cons (lam_make1 I TB hcode hmT hu hT hdef (L.has I.ok) fun f c' pm' ctv H1 s' I1 S1 hsz hf hfn hco => ?_)
  have nfs : f ∉ X.fs := I.nofs hsz
  have nloc : f ≠ X.env.locals := fun z => by
    have h1 := I.lt
    rw [z] at hsz
    exact Nat.lt_irrefl _ (Nat.lt_of_lt_of_le h1 hsz)
  have nfr : f ∉ frs X.stack := fun z => by
    rcases List.mem_cons.mp (I.stkSub _ z) with e | e
    · exact nloc e
    · exact nfs e
  have Ip : Inv X (pins ++ [(f, PySem.W.kla_obj "<lambda>" (X.env.qual ++ "<lambda>") params body scope (cloFrom X.env.cells scope.names []) pm' c' ctv)]) σ H1 s' := I1.pins_of fun p hp => by
    rcases List.mem_append.mp hp with hp | hp
    · exact I1.pin p (List.mem_append_right _ hp)
    · rw [List.mem_singleton.mp hp]
      exact ⟨hf, hfn, nloc, nfs, fun v z => by cases z⟩
  refine thn (ha.run pos _ s' σ H1 _ Ip (h c' H1 S1 hco)) fun us s2 ⟨vs, H2, I2, rvs, q⟩ => ?_
  obtain ⟨hlen, hco2, q⟩ := q
  obtain ⟨of2, hfn2, _⟩ := I2.pin (f, _) (List.mem_append_right _ (List.mem_append_right _ (List.mem_singleton_self _)))
  have J : Inv X pins σ H2 s2 := I2.unpinned
  refine ⟨J.kIn, ?_⟩
  have rc : codeAny (model X.prog X.w) X.A (.call (.ref g) ⟨.ref f :: us, []⟩) (CR CX0 X.stack X.prog X.w H2 s2 Q E0) s2 := by
    obtain ⟨oc, od, kV, doc, pm, an, cdv, ct, osl, rfl, lk, hcd'⟩ := F.ex
    have nl : us.length = ps.length := rvs.length.symm.trans hlen
    have hb2 := hb s2 (.ref f :: us) J.kIn (by rw [List.append_nil, List.length_cons, List.length_cons, nl])
    rw [List.append_nil] at hb2
    refine LamX.run_ofS (N := N) (ps := a :: ps) (us := .ref f :: us) (vs := .ref f :: vs) lk hcd' Sg hr J.env0 hb2 (.cons rfl rvs) (by rw [List.length_cons, List.length_cons, hlen]) fun hr' => ?_
    obtain ⟨t', ht', hq'⟩ := G cdv X.A X.stack s2 H2 f c' vs Q (fun v H3 Q' => t v (σ ++ [some v]) H3 Q') hG hr' (fun e ta p1 p2 hpa he => pe_act1 (i := 0) J L hna of2 hfn2 nfr (fun u => hbind u _ _ _ _ _) hr' (fun A outer s H v hgA hrA => hbody A outer s H f c' v (hgA.trans hG) hrA) hpa hN ((Sg.par a (by simp)).elim .inl fun z => .inr (.inl z)) he hd hcd) hco2 q
    exact ⟨t', ht'.nox, hq'⟩
  refine wpAny_call (codeAny_mono rc fun r s3 hq => ?_)
  match r, hq with
  | .error e, hq => exact (show False from hq).elim
  | .ok (.ret u), hq => exact J.after hq
  | .ok .next, hq => exact False.elim hq
  | .ok .brk, hq => exact False.elim hq
  | .ok .cont, hq => exact False.elim hq
end
end Dl

/-! own layer: a lambda of one parameter (data), telling data, handed behind two arguments -/
namespace Dl
variable [LamT]
open PySem PySem.Spec L2 PyProof.Rows
def LamSlotD (f c' : Addr) (q : Str) (G0 : Hp) : Option V → Hp → Prop := fun o H => o = some (.ref f) ∧ H c' = some (LamX.CodeO c' q) ∧ Per G0 H
/-- what the lambda tells of data, from G0 on -/
def LamD (K : PySem.W.Frag) (tl : V → Hp → VK → Prop) (G0 : Hp) (dom : PyData → Prop) (b : PyData → PyData) : Prop :=
  ∀ (H1 : Hp) (v : V) (d : PyData) (Q : VK), Per G0 H1 → LamX.Tabs LamT.T H1 → SysK H1 → Im K H1 v d → dom d → (∀ u H', Same H1 H' → Im K H' u (b d) → Q u H') → tl v H1 Q
abbrev LDp := (PyData → Prop) → (PyData → PyData) → List Res → (Res → Prop) → Prop
def TTofD (K : PySem.W.Frag) (sp : LDp) : (V → Hp → VK → Prop) → List V → Hp → VK → Prop := fun tl vs H Q =>
  ∃ (rs : List Res) (k : Res → Prop) (dom : PyData → Prop) (b : PyData → PyData), (ArgsP K H vs rs ∧ LamX.Tabs LamT.T H ∧ SysK H) ∧ LamD K tl H dom b ∧ sp dom b rs k ∧ ∀ v H' r, Same H H' → isRet r = true → ResOk K H H H' v r → k r → Q v H'
section
variable {K : PySem.W.Frag} {δ : List Slot}
theorem ec_actD {i : Nat} {f c' : Addr} {q : Str} {G0 : Hp} {tl : V → Hp → VK → Prop} {ta : TA} {dom : PyData → Prop} {b : PyData → PyData} {k : Res → Prop} (hi : δ[i]? = some (.fn (LamSlotD f c' q G0))) (L : LamD K tl G0 dom b)
    (h : EvA K ta δ fun rs => ∃ d, rs = [.dat d] ∧ dom d ∧ k (.dat (b d))) : EvC K (tAct i f c' q ta tl) δ k := by
  intro B H σ R Q g
  obtain ⟨h1, hc, pe⟩ := R.at_ i _ hi H (Per.refl H)
  have hσ : σ[i]? = some (some (V.ref f)) := by
    cases hz : σ[i]? with
    | none => rw [hz] at h1; cases h1
    | some o => rw [hz] at h1; exact congrArg some h1
  refine ⟨hσ, h B H σ R _ fun vs H1 rs e o ⟨d, hrs, hd, hk⟩ => ?_⟩
  subst hrs
  cases o with
  | cons o1 o2 =>
    cases o2
    exact ⟨_, rfl, e.at_ _ _ hc, L H1 _ d Q (pe.trans (per_same e)) (e.tabs R.tabs) (R.x.2.same (R.same.trans e)) o1 hd fun u H' e' im => g u H' (.dat (b d)) (e.trans e') im hk⟩
def datSD : Slot → Slot
  | .dat d => .dat d
  | _ => .any
theorem rel_lamD {B H H3 : Hp} {σ : L2.St} {v : V} {d : PyData} (R : Rel K B H σ δ) (p : Per H H3) (t : LamX.Tabs LamT.T H3) (sk : SysK H3) (im : Im K H3 v d) : Rel K H3 H3 (σ ++ [some v]) (δ.map datSD ++ [.dat d]) := by
  have nown : ∀ (j : Nat) (s : Slot), (δ.map datSD ++ [.dat d])[j]? = some s → isOwn s = false := fun j s hs => by
    have hm := List.mem_of_getElem? hs
    rcases List.mem_append.mp hm with z | z
    · obtain ⟨s0, _, rfl⟩ := List.mem_map.mp z
      cases s0 <;> rfl
    · rw [List.mem_singleton.mp z]
      rfl
  refine ⟨Same.refl _, ⟨trivial, sk⟩, t, by rw [List.length_append, List.length_append, List.length_map, R.len]; rfl, fun j s hs => ?_, fun j l s u q _ hj hl sj _ _ => by rw [nown j s hj] at sj; cases sj⟩
  by_cases hj : j < δ.length
  · rw [List.getElem?_append_left (by rw [List.length_map]; exact hj), List.getElem?_map] at hs
    rw [List.getElem?_append_left (by rw [R.len]; exact hj)]
    obtain ⟨s0, h0, rfl⟩ := Option.map_eq_some_iff.mp hs
    have hat := R.at_ j s0 h0
    cases s0 with
    | dat d =>
      obtain ⟨v, h1, h2⟩ := hat
      exact ⟨v, h1, h2.to p⟩
    | _ => trivial
  · rw [List.getElem?_append_right (by rw [List.length_map]; omega), List.length_map] at hs
    have hlt := (List.getElem?_eq_some_iff.mp hs).1
    rw [List.length_singleton] at hlt
    have e0 : j - δ.length = 0 := by omega
    rw [e0] at hs
    cases hs
    rw [List.getElem?_append_right (by rw [R.len]; omega), R.len, e0]
    exact ⟨v, rfl, im⟩
/-- x(e, e', lambda b: body) -/
def tLamL (q : Str) (TT : (V → Hp → VK → Prop) → List V → Hp → VK → Prop) (t : V → TE) (ta tb : TE) : TE := fun σ H Q => ta σ H fun v1 H1 => tb σ H1 fun v2 H2 => LamX.Tabs LamT.T H2 ∧
  ∀ c' H3, Same H2 H3 → H3 c' = some (LamX.CodeO c' q) → TT (fun v H4 Q' => t v (σ ++ [some v]) H4 Q') [v1, v2] H3 Q
theorem ec_lamL {q : Str} {sp : LDp} {t : V → TE} {ta tb : TE} {k : Res → Prop} (h : EvC K ta δ fun x => EvC K tb δ fun y => ∃ (dom : PyData → Prop) (b : PyData → PyData), sp dom b [argR x, argR y] k ∧ ∀ (d : PyData) (v : V), dom d → EvC K (t v) (δ.map datSD ++ [.dat d]) fun r => r = .dat (b d)) :
    EvC K (tLamL q (TTofD K sp) t ta tb) δ k := by
  intro B H σ R Q g
  refine h B H σ R _ fun v1 H1 x e1 o1 g1 => ?_
  refine g1 B H1 σ (R.grow e1) _ fun v2 H2 y e2 o2 ⟨dom, b, hs, hb⟩ => ?_
  refine ⟨(e1.trans e2).tabs R.tabs, fun c' H3 S3 hc => ?_⟩
  have eA := e1.trans (e2.trans S3)
  have args : ArgsP K H3 [v1, v2] ([x, y].map argR) := args_to (H0 := H) (R.same.trans eA) (.cons (o1.grow (e2.trans S3)) (.cons ((o2.grow S3).from_ e1) .nil)) fun _ _ => trivial
  refine ⟨_, k, dom, b, ⟨args, eA.tabs R.tabs, R.x.2.same (R.same.trans eA)⟩, fun H4 v d Q' p4 t4 s4 im hd fin => ?_, hs, fun v H' r e4 hr ho hk => ?_⟩
  · refine hb d v hd H4 H4 _ (rel_lamD (R.grow eA) p4 t4 s4 im) Q' fun u H' r e5 o5 hr => ?_
    subst hr
    exact fin u H' e5 o5
  · refine g v H' r (eA.trans e4) ?_ hk
    cases r with
    | dat d => exact ho
    | bor ds => cases hr
    | len ds => cases hr
    | fresh ds =>
      obtain ⟨p, us, h1, h2, h3⟩ := ho
      exact ⟨p, us, h1, eA.free h2, h3⟩
    | bag => exact ho
    | borD t ds => cases hr
    | lenD t ds => cases hr
    | freshD t ds =>
      obtain ⟨p, us, h1, h2, h3⟩ := ho
      exact ⟨p, us, h1, eA.free h2, h3⟩
def entryL (N : List Str) (r s : Res) (P : Option V → Hp → Prop) : List Slot := [argSlot r, argSlot s, .fn P] ++ List.replicate (N.length - 3) .any
theorem argS_own (r : Res) : isOwn (argSlot r) = false := by cases r <;> rfl
theorem rel_startL {N : List Str} {H : Hp} {f c' : Addr} {q : Str} {v1 v2 : V} {r1 r2 : Res} (h : ArgsP K H [v1, v2] [r1, r2]) (ht : LamX.Tabs LamT.T H) (hk : SysK H) (hc : H c' = some (LamX.CodeO c' q)) :
    Rel K H H (start N [v1, v2, .ref f]) (entryL N r1 r2 (LamSlotD f c' q H)) := by
  obtain ⟨a1, a2⟩ : ArgOk K H v1 r1 ∧ ArgOk K H v2 r2 := by
    cases h with
    | cons a1 h =>
      cases h with
      | cons a2 h => exact ⟨a1, a2⟩
  have no : ∀ (j : Nat) (s : Slot), (entryL N r1 r2 (LamSlotD f c' q H))[j]? = some s → isOwn s = false := fun j s hs => by
    have hm := List.mem_of_getElem? hs
    unfold entryL at hm
    rcases List.mem_append.mp hm with z | z
    · simp only [List.mem_cons, List.not_mem_nil, or_false] at z
      rcases z with rfl | rfl | rfl
      · exact argS_own _
      · exact argS_own _
      · rfl
    · rw [(List.mem_replicate.mp z).2]
      rfl
  refine ⟨Same.refl H, ⟨trivial, hk⟩, ht, ?_, fun i s hs => ?_, fun i j s t p _ hi _ si _ => by rw [no i s hi] at si; cases si⟩
  · unfold L2.start entryL
    simp only [List.length_append, List.length_map, List.length_cons, List.length_nil, List.length_replicate]
  · unfold L2.start
    unfold entryL at hs
    match i, hs with
    | 0, hs => cases hs; exact argSlot_ok a1
    | 1, hs => cases hs; exact argSlot_ok a2
    | 2, hs => cases hs; exact fun H' p => ⟨rfl, p _ _ hc rfl, p⟩
    | i + 3, hs =>
      rw [List.getElem?_append_right (by simp)] at hs
      have hm := List.mem_of_getElem? hs
      rw [(List.mem_replicate.mp hm).2]
      trivial
end
/-- the def that is given the lambda behind two arguments: a calls it -/
def GivesL (P : Program) (w : World) (K : PySem.W.Frag) (mg : Str → Option Value) (base : Heap) (n : Nat) (x : Str) (st : Stmt) (g : Addr) (N : List Str) (a q : Str) (TT : (V → Hp → VK → Prop) → List V → Hp → VK → Prop) : Prop :=
  ∀ (cdv : Value) (A : Around) (outer : List Env) (s : Shared) (H : Hp) (f c' : Addr) (v1 v2 : V) (Q : VK) (tl : V → Hp → VK → Prop), A.guards = some [] → Room n (A.deeper (PyProof.Rows.envOfC x (defScope st) s.heap.objs.size g cdv)) →
    (∀ (e : Expr) (ta : TA) (p1 p2 : Pos), PA (cxOf CX0 P w K mg base N x (defScope st) g cdv A outer s H E0).nox [e] ta →
      (starEach [e] (cxOf CX0 P w K mg base N x (defScope st) g cdv A outer s H E0).nox.env = (false, eval e (cxOf CX0 P w K mg base N x (defScope st) g cdv A outer s H E0).nox.env) :: starEach [] (cxOf CX0 P w K mg base N x (defScope st) g cdv A outer s H E0).nox.env) →
      PE (cxOf CX0 P w K mg base N x (defScope st) g cdv A outer s H E0).nox (.Call (.Name a p1) [e] [] p2) (tAct 2 f c' q ta tl)) →
    H c' = some (LamX.CodeO c' q) → TT tl [v1, v2] H Q →
    ∃ t, PSs (cxOf CX0 P w K mg base N x (defScope st) g cdv A outer s H E0).nox (defBody st) t ∧ t { nx := fun _ H' => Q .non H', rt := Q } (start N [v1, v2, .ref f]) H
section
variable {X : Cx}
theorem pe_lamcallL {TT : (V → Hp → VK → Prop) → List V → Hp → VK → Prop} {x a b y z : Str} {st : Stmt} {g c P : Addr} {fd : FuncData} {k : Nat} {N : List Str} {params : Arguments} {body : Expr} {scope : Scope} {t : V → TE} {ta tb : TE} {e1 e2 : Expr} {p lpos pos : Pos}
    (F : L2.Fun X.K x x st g fd) (Sg : FnScope N [y, z, a] (defScope st)) (hb : Binds X.K fd [y, z, a] []) (hm : X.mg x = some (.ref g)) (hG : X.A.guards = some []) (hr : Room (k + 2) X.A)
    (G : GivesL X.prog X.w X.K X.mg X.base (k + 1) x st g N a (X.env.qual ++ "<lambda>") TT)
    (TB : LamX.TabB X.base X.mg c P) (hcode : X.env.code = .ref c) (hmT : (P, X.env.qual ++ "<lambda>") ∈ LamT.T) (hu : ∀ p ∈ LamT.T, p.1 = P → p.2 = X.env.qual ++ "<lambda>") (L : LamS1 X.env.scope scope b) (hna : b ∉ X.N) (hdef : defaultsOf params X.env = ([], []))
    (hbind : ∀ (u : Value) (q : Str) (cl : List (Str × Addr)) (pm cv ctv : Value), bindArgs (PySem.W.kla_fn "<lambda>" q params body scope cl pm cv ctv) ⟨[u], []⟩ = pure [(b, u)])
    (hbody : ∀ (A : Around) (outer : List Env) (s : Shared) (H : Hp) (f c' : Addr) (v : V), A.guards = some [] → Room k (A.deeper (LamX.lamEnv X scope s.heap.objs.size f c')) → PE (lamCx1 X A outer s H scope f c' b) body (t v))
    (ha : PE X e1 ta) (hb2 : PE X e2 tb) (hg : Gl X x := by rfl) (hN : N[2]? = some a := by rfl)
    (he : starEach [e1, e2, .Lambda params body scope lpos] X.env = (false, eval e1 X.env) :: starEach [e2, .Lambda params body scope lpos] X.env := by rfl)
    (he2 : backTo pos (starEach [e2, .Lambda params body scope lpos] X.env) = [(false, eval e2 X.env), (false, eval (.Lambda params body scope lpos) X.env)] := by rfl) (hpl : (backTo pos (starEach [e2, .Lambda params body scope lpos] X.env)).any (·.1) = false := by rfl)
    (hdb : (x == ("__debug__" : Str)) = false := by decide) (hd : (a == ("__debug__" : Str)) = false := by decide) (hcd : (a == ("__classdict__" : Str)) = false := by decide) :
    PE X (.Call (.Name x p) [e1, e2, .Lambda params body scope lpos] [] pos) (tLamL (X.env.qual ++ "<lambda>") TT t ta tb) := by
  refine ⟨fun pins s σ H Q I h => ?_⟩
  refine wpAny_Call_Name_kw (ld_glob I hg hm ?_ hdb)
  refine PySem.W.callWith_K (h₀ := X.base) I.ok.mod.kin F.kp ?_ he hpl
  rw [he]
  show wpAny _ _ (spliced ((false, eval e1 X.env) :: backTo pos (starEach [e2, .Lambda params body scope lpos] X.env))) _ _ s
  rw [he2]
  refine Calls.spliced_cons (thn (ha.run pins s σ H _ I h) fun u1 s1 ⟨v1, H1, I1, r1, h1⟩ => ?_)
  refine Calls.spliced_cons (thn (hb2.run pins s1 σ H1 _ I1 h1) fun u2 s2 ⟨v2, H2, I2, r2, h2⟩ => ?_)
  obtain ⟨hT, h2⟩ := h2
  refine Calls.spliced_cons (lam_make1 I2 TB hcode hmT hu hT hdef (L.has I.ok) fun f c' pm' ctv H3 s3 I3 S3 hsz hf hfn hco => ?_)
  have nfs : f ∉ X.fs := I2.nofs hsz
  have nloc : f ≠ X.env.locals := fun z => by
    have h1 := I2.lt
    rw [z] at hsz
    exact Nat.lt_irrefl _ (Nat.lt_of_lt_of_le h1 hsz)
  have nfr : f ∉ frs X.stack := fun z => by
    rcases List.mem_cons.mp (I2.stkSub _ z) with e | e
    · exact nloc e
    · exact nfs e
  refine Calls.spliced_nil ?_
  have q := h2 c' H3 S3 hco
  refine ⟨I3.kIn, ?_⟩
  have rc : codeAny (model X.prog X.w) X.A (.call (.ref g) ⟨[u1, u2, .ref f], []⟩) (CR CX0 X.stack X.prog X.w H3 s3 Q E0) s3 := by
    obtain ⟨oc, od, kV, doc, pm, an, cdv, ct, osl, rfl, lk, hcd'⟩ := F.ex
    have hbs := hb s3 [u1, u2, .ref f] I3.kIn rfl
    refine LamX.run_ofS (N := N) (ps := [y, z, a]) (us := [u1, u2, .ref f]) (vs := [v1, v2, .ref f]) lk hcd' Sg hr I3.env0 hbs (.cons r1 (.cons r2 (.cons rfl .nil))) rfl fun hr' => ?_
    obtain ⟨t', ht', hq'⟩ := G cdv X.A X.stack s3 H3 f c' v1 v2 Q (fun v H3 Q' => t v (σ ++ [some v]) H3 Q') hG hr' (fun e ta p1 p2 hpa he => pe_act1 (i := 2) I3 L hna hf hfn nfr (fun u => hbind u _ _ _ _ _) hr' (fun A outer s H v hgA hrA => hbody A outer s H f c' v (hgA.trans hG) hrA) hpa hN ((Sg.par a (by simp)).elim .inl fun z => .inr (.inl z)) he hd hcd) hco q
    exact ⟨t', ht'.nox, hq'⟩
  refine wpAny_call (codeAny_mono rc fun r s4 hq => ?_)
  match r, hq with
  | .error e, hq => exact (show False from hq).elim
  | .ok (.ret u), hq => exact I3.after hq
  | .ok .next, hq => exact False.elim hq
  | .ok .brk, hq => exact False.elim hq
  | .ok .cont, hq => exact False.elim hq
end
/-- a def that is given a lambda behind two arguments, by its body over abstract slots -/
theorem gives_okL {P : Program} {w : World} {K : PySem.W.Frag} {mg : Str → Option Value} {base : Heap} {n : Nat} {x : Str} {st : Stmt} {g : Addr} {N : List Str} {a q : Str} {sp : LDp}
    (len : ∀ dom b rs k, sp dom b rs k → ∃ r s, rs = [r, s])
    (body : ∀ (cdv : Value) (A : Around) (outer : List Env) (s : Shared) (H : Hp) (f c' : Addr) (tl : V → Hp → VK → Prop) (dom : PyData → Prop) (b : PyData → PyData) (r1 r2 : Res) (k : Res → Prop), A.guards = some [] → Room n (A.deeper (PyProof.Rows.envOfC x (defScope st) s.heap.objs.size g cdv)) → LamD K tl H dom b → sp dom b [r1, r2] k →
      (∀ (e : Expr) (ta : TA) (p1 p2 : Pos), PA (cxOf CX0 P w K mg base N x (defScope st) g cdv A outer s H E0).nox [e] ta →
        (starEach [e] (cxOf CX0 P w K mg base N x (defScope st) g cdv A outer s H E0).nox.env = (false, eval e (cxOf CX0 P w K mg base N x (defScope st) g cdv A outer s H E0).nox.env) :: starEach [] (cxOf CX0 P w K mg base N x (defScope st) g cdv A outer s H E0).nox.env) →
        PE (cxOf CX0 P w K mg base N x (defScope st) g cdv A outer s H E0).nox (.Call (.Name a p1) [e] [] p2) (tAct 2 f c' q ta tl)) →
      ∃ t, PSs (cxOf CX0 P w K mg base N x (defScope st) g cdv A outer s H E0).nox (defBody st) t ∧ SD K t { nx := fun _ => k (.dat .none), rt := fun r => isRet r = true ∧ k r } (entryL N r1 r2 (LamSlotD f c' q H))) :
    GivesL P w K mg base n x st g N a q (TTofD K sp) := by
  intro cdv A outer s H f c' v1 v2 Q tl hg hr act hc htt
  obtain ⟨rs, k, dom, b, ⟨h1, ht, hk⟩, L, hs, fin⟩ := htt
  obtain ⟨r1, r2, rfl⟩ := len _ _ _ _ hs
  obtain ⟨t, pt, sd⟩ := body cdv A outer s H f c' tl dom b r1 r2 k hg hr L hs act
  exact ⟨t, pt, sd H H _ (rel_startL h1 ht hk hc) _ ⟨fun σ H' δ R hk => fin _ _ _ R.same rfl rNon hk, fun v H' r e o hk => fin v H' r e hk.1 o hk.2, fun _ _ _ _ z => z.elim, fun _ _ _ _ z => z.elim⟩⟩
end Dl

/-! own layer: sorted(e, key=lambda b: body), the lambda telling data of data -/
namespace Dl
variable [LamT]
open PySem PySem.Spec L2 PyProof.Rows PySem.W
section
variable {prog : Program} {w : World} {A : Around} {E : Value → Shared → Prop} {s : Shared} {a kS : Addr} {b : Bool} {vs : List Value} {e1 : Nat} {P : PySem.Fin → Shared → Prop}
/-- the turns of key=, over any states: J tells of the keys that are made -/
theorem keyJ_rest {f : Value} {J : List Value → Shared → Prop} (h0 : J [] s) (hZ : vs.length ≤ sizeLine) (hJ : ∀ kA s1, J kA s1 → ∃ e, s1.heap.get? kS = some (seqObj "list" kA.toArray e))
    (turn : ∀ (i : Nat) (x : Value) (kA : List Value) (s1 : Shared), vs[i]? = some x → kA.length = i → J kA s1 →
      wpAny (model prog w) A (call f [x]) (fun v s2 => (∃ e, s2.heap.get? kS = some (seqObj "list" kA.toArray e)) ∧ J (kA ++ [v]) { s2 with heap := s2.heap.update kS (Obj.mapSeq (·.push v)) }) (fun _ _ => False) s1)
    (fin : ∀ (kA : List Value) (s1 : Shared), kA.length = vs.length → J kA s1 → wpAny (model prog w) A (ksk_end a b vs.toArray e1 (.ref kS) kA.toArray) P E s1) :
    wpAny (model prog w) A (ksk_rest a f b vs.toArray e1 (.ref kS)) P E s := by
  unfold ksk_rest
  refine wpAny_bind (wpAny_rule ?_)
  first
    | rw [List.forIn_toArray]
    | (rw [← Array.forIn_toList]; simp only [List.toList_toArray])
    | rw [← Array.forIn_toList]
  refine wpAny_bind (ksk_fold (fun i s' => ∃ kA, kA.length = i ∧ J kA s') vs 0 s ⟨[], rfl, h0⟩ ?step ?done)
  case step =>
    rintro j x s' hx ⟨kA, hl, hj⟩
    simp only [Nat.zero_add] at hl ⊢
    refine wpAny_bind (wpAny_attempt (wpAny_mono (turn j x kA s' hx hl hj) (fun v s'' he => ?_) fun _ _ hF => hF.elim))
    obtain ⟨⟨e, nk⟩, j2⟩ := he
    have hz : kA.toArray.size ≤ sizeLine := by
      have := (List.getElem?_eq_some_iff.mp hx).1
      rw [List.size_toArray]
      omega
    try dsimp only
    refine wpAny_bind (listUpdate_at nk rfl ?_ hz (Nat.le_trans (Nat.le_of_eq (Array.size_push ..)) (Nat.succ_le_succ hz)))
    exact wpAny_pure ⟨rfl, kA ++ [v], by rw [List.length_append, hl]; rfl, j2⟩
  case done =>
    rintro s' ⟨kA, hl, hj⟩
    obtain ⟨e, nk⟩ := hJ kA s' hj
    try dsimp only
    refine wpAny_bind (listItems_at nk rfl ?_)
    exact fin kA s' (by omega) hj
end
section
variable {X : Cx} {pins : List (Addr × Obj)} {σ : L2.St} {H : Hp} {s : Shared}
/-- the lambda called from a built-in -/
theorem lam_call {f c' : Addr} {A : Around} {pm ctv : Value} {params : Arguments} {body : Expr} {scope : Scope} {k : Nat} {a : Str} {t : V → TE} {E : Value → Shared → Prop} {Q : VK} {v : V} {u : Value}
    (I : Inv X pins σ H s) (L : LamS1 X.env.scope scope a) (hna : a ∉ X.N) (hf : s.heap.get? f = some (PySem.W.kla_obj "<lambda>" (X.env.qual ++ "<lambda>") params body scope (cloFrom X.env.cells scope.names []) pm c' ctv))
    (hbind : ∀ u : Value, bindArgs (PySem.W.kla_fn "<lambda>" (X.env.qual ++ "<lambda>") params body scope (cloFrom X.env.cells scope.names []) pm (.ref c') ctv) ⟨[u], []⟩ = pure [(a, u)])
    (e0 : Env0 X.prog X.w X.K X.mg X.base A X.stack s H) (hr : Room (k + 1) A)
    (hbody : ∀ (s : Shared) (H : Hp) (v : V), PE (lamCx1 X A X.stack s H scope f c' a) body (t v))
    (hco : H c' = some (LamX.CodeO c' (X.env.qual ++ "<lambda>"))) (rv : RelV v u) (q : t v (σ ++ [some v]) H Q) :
    wpAny (model X.prog X.w) A (call (.ref f) [u]) (EP X pins σ Q) E s := by
  obtain ⟨⟨oc, ws, tq, hoc, hdc, hvc⟩, _, _⟩ := I.hok c' _ hco
  have rc : codeAny (model X.prog X.w) A (.call (.ref f) ⟨[u], []⟩) (CR (L2.CX X.prog X.w) X.stack X.prog X.w H s Q fun _ _ _ => False) s := by
    refine PySem.W.kla_callFunE hr.depth hf rfl L.co L.gen rfl ⟨c', oc, ws, tq, rfl, hoc, hdc, hvc⟩ ?_
    rw [hbind]
    refine wpAny_pure (wpAny_newFunctionEnv (fun y hy => L.cell y hy) (fun y hy => ?_) (fun h₁ hns hsb => ⟨I.nolimit.fresh _ hsb, ?_⟩) L.kind)
    · rw [List.mem_singleton.mp hy]
      exact L.par
    show codeAny _ _ (.expr body (LamX.lamEnv X scope s.heap.objs.size f c')) _ _
    have kp : ∀ b o, s.heap.get? b = some o → h₁.get? b = some o := fun b o e => hsb.extBut b o (Nat.ne_of_lt (Heap.lt_size e)) (Heap.get?_push_of_some _ e)
    have J : Inv (lamCx1 X A X.stack s H scope f c' a) [] (σ ++ [some v]) H { s with heap := h₁, toks := s.toks + ([(a, u)] : List (Str × Value)).length } :=
      lam_start1 I L hna rv e0 hr.hd Un.refl hns kp
    refine PySem.W.kla_codeExpr (wpAny_mono ((hbody s H v).run [] _ _ H Q J q) (fun v s' hq => ?_) fun e s' hq => hq)
    obtain ⟨w', H', J', rv', q'⟩ := hq
    exact ⟨w', H', J'.os, J'.bare, J'.base, J'.hok, rv', q'⟩
  refine wpAny_call (codeAny_mono rc fun r s' hq => ?_)
  match r, hq with
  | .error e, hq =>
    obtain ⟨_, _, _, _, _, _, _, _, _, _, _, _, z⟩ := hq
    exact z.elim
  | .ok (.ret u), hq => exact I.after hq
  | .ok .next, hq => exact False.elim hq
  | .ok .brk, hq => exact False.elim hq
  | .ok .cont, hq => exact False.elim hq
end
def rSortK (K : PySem.W.Frag) (tl : V → Hp → VK → Prop) (v : V) (H : Hp) (Q : VK) : Prop := ∃ (a : Addr) (xs : List V) (ks : List PyData), v = V.ref a ∧ SqL K H a xs ∧ ks.length = xs.length ∧ AllAlike ks ∧ Sortable ks ∧ (∀ d ∈ ks, d.depth ≤ 60) ∧
  (∀ (i : Nat) (x : V) (d : PyData), xs[i]? = some x → ks[i]? = some d → ∀ (H1 : Hp) (Q1 : VK), Same H H1 → (∀ u H2, Same H1 H2 → Im K H2 u d → Q1 u H2) → tl x H1 Q1) ∧
  ∀ (zs : List (V × PyData)) (p : Addr) (H1 : Hp), zs = (xs.zip ks).mergeSort (dataLe false fun b => b.2) → Same H H1 → H1 p = none → Q (.ref p) (upd H1 p (.lst (zs.map (·.1))))
/-- sorted(e, key=lambda b: body) -/
def tSortK (q : Str) (K : PySem.W.Frag) (t : V → TE) (ta : TE) : TE := fun σ H Q => ta σ H fun v H1 => LamX.Tabs LamT.T H1 ∧ ∀ c' H2, Same H1 H2 → H2 c' = some (LamX.CodeO c' q) → rSortK K (fun x H3 Q1 => t x (σ ++ [some x]) H3 Q1) v H2 Q
theorem vals_snoc : ∀ {ys : List V} {us : List Value} {y : V} {u : Value}, Vals ys us → RelV y u → Vals (ys ++ [y]) (us ++ [u])
  | _, _, _, _, .nil, r => .cons r .nil
  | _, _, _, _, .cons h hh, r => .cons h (vals_snoc hh r)
theorem imAll_snoc {K : PySem.W.Frag} {H : Hp} : ∀ {ys : List V} {ds : List PyData} {y : V} {d : PyData}, ImAll K H ys ds → Im K H y d → ImAll K H (ys ++ [y]) (ds ++ [d])
  | _, _, _, _, .nil, r => .cons r .nil
  | _, _, _, _, .cons h hh, r => .cons h (imAll_snoc hh r)
theorem imAll_same {K : PySem.W.Frag} {H H' : Hp} {ys : List V} {ds : List PyData} (h : ImAll K H ys ds) (e : Same H H') : ImAll K H' ys ds := h.to (per_same e)
theorem each_reads1 {X : Cx} {pins : List (Addr × Obj)} {σ : L2.St} {H : Hp} {s : Shared} (I : Inv X pins σ H s) : ∀ {xs : List V} {its : List Value} {ds : List PyData}, Vals xs its → DpAll X.K H xs ds → EachIs (fun v d => ∃ as, Reads s.heap v d as) its ds
  | _, _, _, .nil, .nil => .nil
  | _, _, _, .cons r rr, .cons h hh => .cons (Dp.reads I _ _ _ h r) (each_reads1 I rr hh)
section
variable {X : Cx}
theorem sort_key_run {pins : List (Addr × Obj)} {σ : L2.St} {H : Hp} {s : Shared} {f c' : Addr} {pm ctv : Value} {params : Arguments} {body : Expr} {scope : Scope} {k : Nat} {b : Str} {t : V → TE} {Q : VK} {v : V} {u : Value} {E : Value → Shared → Prop}
    (I : Inv X pins σ H s) (L : LamS1 X.env.scope scope b) (hna : b ∉ X.N) (hf : s.heap.get? f = some (PySem.W.kla_obj "<lambda>" (X.env.qual ++ "<lambda>") params body scope (cloFrom X.env.cells scope.names []) pm c' ctv)) (hfn : H f = none) (hfl : f ≠ X.env.locals) (hfs : f ∉ X.fs)
    (hbind : ∀ u : Value, bindArgs (PySem.W.kla_fn "<lambda>" (X.env.qual ++ "<lambda>") params body scope (cloFrom X.env.cells scope.names []) pm (.ref c') ctv) ⟨[u], []⟩ = pure [(b, u)])
    (hr : Room (k + 3) X.A) (hbody : ∀ (s : Shared) (H : Hp) (v : V), PE (lamCx1 X X.A.in1.in1 X.stack s H scope f c' b) body (t v))
    (hco : H c' = some (LamX.CodeO c' (X.env.qual ++ "<lambda>"))) (ru : RelV v u) (q : rSortK X.K (fun x H3 Q1 => t x (σ ++ [some x]) H3 Q1) v H Q) :
    wpAny (model X.prog X.w) X.A (call (.builtin "sorted") [u] [(Str.ofString "key", .ref f)]) (EP X pins σ Q) E s := by
  obtain ⟨l, xs, ks, rfl, hs, hlen, hal, hso, hdep, htl, hq⟩ := q
  obtain rfl : u = Value.ref l := ru
  obtain ⟨its, rv, p, hz⟩ := I.list hs
  have hrl := rv.length
  have hZ : its.length ≤ sizeLine := by omega
  have hun := hr.units
  have hr1 : Room (k + 1) X.A.in1.in1 := Room.in1 (k := k + 1) (Room.in1 (k := k + 2) hr)
  refine sorted_of_sort p.isList hZ (PyProof.Rows.ksk_s1 _ _) (fun _ => PyProof.Rows.ksk_l1 _ _) fun E' => ?_
  rw [PyProof.Rows.ksk_t1]
  -- the start
  have ho : (copyHeap s.heap its).get? (s.heap.objs.size + 1) = some (seqObj "list" its.toArray 0) := copyHeap_at s.heap its
  generalize hA : s.heap.objs.size + 1 = a0 at ho ⊢
  have ha0 : a0 < (copyHeap s.heap its).objs.size := Heap.lt_size ho
  obtain ⟨e1, ho1⟩ : ∃ e1, ((copyHeap s.heap its).update a0 (Obj.mapSeq fun _ => (#[] : Array Value))).get? a0 = some (seqObj "list" #[] e1) := ⟨_, get?_update_seq ho fun _ => #[]⟩
  unfold ksk_tree
  refine wpAny_bind (listItems_at ho rfl ?_)
  refine wpAny_bind (listUpdate_at ho rfl ?_ (by rw [List.size_toArray]; exact hZ) (Nat.zero_le _))
  refine wpAny_bind (seqEpoch_at ho1 rfl ?_)
  refine wpAny_bind (wpAny_newTuple ?_ (by show its.length ≤ _; exact hZ))
  refine wpAny_bind (wpAny_newList ?_ (Nat.zero_le _))
  refine wpAny_holding ?_
  have hkSz : (((copyHeap s.heap its).update a0 (Obj.mapSeq fun _ => (#[] : Array Value))).push (seqObj "tuple" its.toArray 0)).objs.size = (copyHeap s.heap its).objs.size + 1 := by rw [size_push', Heap.size_update]
  have nkS : (sortingHeap (copyHeap s.heap its) a0 its).get? (((copyHeap s.heap its).update a0 (Obj.mapSeq fun _ => (#[] : Array Value))).push (seqObj "tuple" its.toArray 0)).objs.size = some (seqObj "list" #[] 0) := Heap.get?_push_size _ rfl
  have na0 : (sortingHeap (copyHeap s.heap its) a0 its).get? a0 = some (seqObj "list" #[] e1) := Heap.get?_push_of_some _ (Heap.get?_push_of_some _ ho1)
  show wpAny _ _ (ksk_rest a0 (.ref f) false its.toArray e1 (.ref (((copyHeap s.heap its).update a0 (Obj.mapSeq fun _ => (#[] : Array Value))).push (seqObj "tuple" its.toArray 0)).objs.size)) _ _ { s with heap := sortingHeap (copyHeap s.heap its) a0 its }
  generalize hk0 : (((copyHeap s.heap its).update a0 (Obj.mapSeq fun _ => (#[] : Array Value))).push (seqObj "tuple" its.toArray 0)).objs.size = kS at nkS ⊢
  have hka : kS ≠ a0 := by omega
  have kp0 : ∀ b o, s.heap.get? b = some o → (sortingHeap (copyHeap s.heap its) a0 its).get? b = some o := fun b o e =>
    sortingHeap_old (by rw [← hA]; exact Nat.ne_of_lt (Nat.lt_succ_of_lt (Heap.lt_size e))) (copyHeap_old e)
  have lta : s.heap.objs.size ≤ a0 := by omega
  have ltk : s.heap.objs.size ≤ kS := by
    have h1 : s.heap.objs.size ≤ (copyHeap s.heap its).objs.size := by omega
    omega
  have fresh : ∀ z, s.heap.objs.size ≤ z → H z = none ∧ z ≠ X.env.locals ∧ z ∉ X.fs ∧ X.s_0.heap.objs.size ≤ z ∧ (∀ x c, X.env.cells.lookup x = some c → c ≠ z) ∧ ∀ p ∈ X.pn ++ pins, p.1 ≠ z := fun z hz =>
    ⟨I.hok.fresh hz, fun e => absurd (Nat.lt_of_lt_of_le (e ▸ I.lt) hz) (Nat.lt_irrefl _), I.nofs hz, Nat.le_trans I.sz hz, fun x c e z2 => by
      obtain ⟨v, o, ho, _⟩ := I.cell x c e
      exact absurd (Nat.lt_of_lt_of_le (Heap.lt_size ho) (z2 ▸ hz)) (Nat.lt_irrefl _), fun p hp e => absurd (Nat.lt_of_lt_of_le (Heap.lt_size (I.pin p hp).1) (e ▸ hz)) (Nat.lt_irrefl _)⟩
  have hfa : f ≠ a0 := Nat.ne_of_lt (Nat.lt_of_lt_of_le (Heap.lt_size hf) lta)
  have hfk : f ≠ kS := Nat.ne_of_lt (Nat.lt_of_lt_of_le (Heap.lt_size hf) ltk)
  -- what is known at a turn
  let fo := PySem.W.kla_obj "<lambda>" (X.env.qual ++ "<lambda>") params body scope (cloFrom X.env.cells scope.names []) pm c' ctv
  let J : List Value → Shared → Prop := fun kA s1 => ∃ (H1 : Hp) (e : Nat) (ys : List V), Inv X (pins ++ [(a0, seqObj "list" #[] e1), (f, fo), (kS, seqObj "list" kA.toArray e)]) σ H1 s1 ∧ Same H H1 ∧ Vals ys kA ∧ ImAll X.K H1 ys (ks.take kA.length)
  have cellL : ∀ {cl : String} {ar : Array Value} {e : Nat} (v : Option Value), (seqObj cl ar e).data ≠ .cell v := fun v z => by cases z
  have cellF : ∀ v : Option Value, fo.data ≠ .cell v := fun v z => by cases z
  refine keyJ_rest (kS := kS) (J := J) ?h0 hZ ?hJ ?turn ?fin
  case h0 =>
    refine ⟨H, 0, [], (I.kept (t' := s.toks) kp0).pins_of fun p hp => ?_, Same.refl H, .nil, .nil⟩
    rcases List.mem_append.mp hp with hp | hp
    · exact (I.kept (t' := s.toks) kp0).pin p (List.mem_append_right _ hp)
    · simp only [List.mem_cons, List.not_mem_nil, or_false] at hp
      rcases hp with rfl | rfl | rfl
      · exact ⟨na0, (fresh a0 lta).1, (fresh a0 lta).2.1, (fresh a0 lta).2.2.1, cellL⟩
      · exact ⟨kp0 _ _ hf, hfn, hfl, hfs, cellF⟩
      · exact ⟨nkS, (fresh kS ltk).1, (fresh kS ltk).2.1, (fresh kS ltk).2.2.1, cellL⟩
  case hJ =>
    rintro kA s1 ⟨H1, e, ys, I1, _⟩
    exact ⟨e, (I1.pin (kS, _) (by simp)).1⟩
  case turn =>
    rintro i x kA s1 hx hl ⟨H1, e, ys, I1, S1, rk, ik⟩
    have hi : i < xs.length := by
      have := (List.getElem?_eq_some_iff.mp hx).1
      omega
    obtain ⟨xv, hxv⟩ : ∃ xv, xs[i]? = some xv := ⟨_, List.getElem?_eq_getElem hi⟩
    obtain ⟨d, hd⟩ : ∃ d, ks[i]? = some d := ⟨_, List.getElem?_eq_getElem (by omega)⟩
    have rx : RelV xv x := by
      obtain ⟨x', h1, h2⟩ := rv.get hxv
      rw [hx] at h1
      cases h1
      exact h2
    have of1 := (I1.pin (f, fo) (by simp)).1
    refine thn (lam_call I1 L hna of1 hbind I1.env0.in1.in1 hr1 hbody (S1.at_ _ _ hco) rx (htl i xv d hxv hd H1 (fun u H2 => Same H1 H2 ∧ Im X.K H2 u d) S1 fun u H2 e2 im => ⟨e2, im⟩)) fun u2 s2 hu => ?_
    obtain ⟨y, H2, I2, ry, S2, im⟩ := hu
    have p1 := I2.pin (a0, seqObj "list" #[] e1) (by simp)
    have p2 := I2.pin (f, fo) (by simp)
    have p3 := I2.pin (kS, seqObj "list" kA.toArray e) (by simp)
    refine ⟨⟨e, p3.1⟩, ?_⟩
    have sb := Heap.SameBut.update s2.heap kS (Obj.mapSeq (·.push u2))
    have up : ∃ e3, (s2.heap.update kS (Obj.mapSeq (·.push u2))).get? kS = some (seqObj "list" (kA ++ [u2]).toArray e3) := by
      have := get?_update_seq p3.1 (·.push u2)
      have ea : kA.toArray.push u2 = (kA ++ [u2]).toArray := by simp
      rw [ea] at this
      exact ⟨_, this⟩
    obtain ⟨e3, up⟩ := up
    have fk := fresh kS ltk
    have It : Inv X (pins ++ [(a0, seqObj "list" #[] e1), (f, fo)]) σ H2 { s2 with heap := s2.heap.update kS (Obj.mapSeq (·.push u2)), toks := s2.toks } := by
      refine Inv.turned (I2.pins_of (pins' := pins ++ [(a0, seqObj "list" #[] e1), (f, fo)]) fun p hp => I2.pin p ?_) (it := kS) (fun b o hb ho => (sb.2 b hb).trans ho) p3.2.1 fk.2.1 (.inr fk.2.2.2.1) fk.2.2.2.2.1 fun p hp => ?_
      · rcases List.mem_append.mp hp with hp | hp
        · exact List.mem_append_right _ (List.mem_append_left _ hp)
        · refine List.mem_append_right _ (List.mem_append_right _ ?_)
          simp only [List.mem_cons, List.not_mem_nil, or_false] at hp ⊢
          rcases hp with rfl | rfl
          · exact .inl rfl
          · exact .inr (.inl rfl)
      · rw [← List.append_assoc] at hp
        rcases List.mem_append.mp hp with hp | hp
        · exact fk.2.2.2.2.2 p hp
        · simp only [List.mem_cons, List.not_mem_nil, or_false] at hp
          rcases hp with rfl | rfl
          · exact Ne.symm hka
          · exact hfk
    refine ⟨H2, e3, ys ++ [y], It.pins_of fun p hp => ?_, S1.trans S2, vals_snoc rk ry, ?_⟩
    · rcases List.mem_append.mp hp with hp | hp
      · exact It.pin p (List.mem_append_right _ (List.mem_append_left _ hp))
      · simp only [List.mem_cons, List.not_mem_nil, or_false] at hp
        rcases hp with rfl | rfl | rfl
        · exact It.pin _ (by simp)
        · exact It.pin _ (by simp)
        · exact ⟨up, p3.2.1, fk.2.1, fk.2.2.1, cellL⟩
    · rw [List.length_append, hl, List.length_singleton, List.take_add_one, hd]
      rw [hl] at ik
      exact imAll_snoc (imAll_same ik S2) im
  case fin =>
    rintro kA s1 hl ⟨H1, e, ys, I1, S1, rk, ik⟩
    have p1 := I1.pin (a0, seqObj "list" #[] e1) (by simp)
    have p3 := I1.pin (kS, seqObj "list" kA.toArray e) (by simp)
    rw [List.take_of_length_le (by omega)] at ik
    have er := each_reads1 I1 rk (ik.toDp (nd_of_alikes ks fun d hd => hal d hd d hd))
    obtain ⟨G, g1, g2⟩ := restrict s1.heap fun z => decide (z ≠ kS)
    have gk : KeepsBut a0 G s1.heap := fun z o _ ez => by
      by_cases hzk : z = kS
      · rw [g2 z (decide_eq_false fun h => h hzk)] at ez
        cases ez
      · rw [g1 z (decide_eq_true hzk)] at ez
        exact ez
    refine keyH_end (κ := dataKind s1.heap ks) (h₁ := G) gk (g2 kS (decide_eq_false fun h => h rfl)) p3.1 p1.1 hka (SortsAt.data (s := s1) (by simpa using er) hal hso fun d hd => ?_) (by rw [List.size_toArray]; exact hl) hZ fun h3 tk3 c3 k3 n3 => ⟨rfl, ?_⟩
    · have := hdep d hd
      show X.A.units + 1 + 1 + d.depth < cLine
      omega
    -- behind the sort
    have ee : EachIs (fun v (b : V × PyData) => RelV b.1 v) (sortVals (dataKind s1.heap ks) false kA its) ((xs.zip ks).mergeSort (dataLe false fun b => b.2)) := by
      have e2 : (xs.zip ks).map (fun b : V × PyData => b.2) = ks := List.map_snd_zip (by omega)
      refine keyedOut_each (bs := xs.zip ks) (fun b : V × PyData => b.2) (vs := its) ?_ (each_rel rv (by omega))
      rw [e2]
      exact ⟨s1.heap, kA, hal, rfl, er⟩
    have rv2 := vals_of_each ee
    have e3 : kA.toArray.toList = kA := by simp
    rw [e3] at n3
    have fa := fresh a0 lta
    have fk := fresh kS ltk
    have pm : ((xs.zip ks).mergeSort (dataLe false fun b => b.2)).Perm (xs.zip ks) := List.mergeSort_perm _ _
    have kk : ∀ z o, z ≠ a0 → z ≠ kS → s1.heap.get? z = some o → h3.get? z = some o := fun z o h1 h2 ez => k3 z o h1 (by rw [g1 z (decide_eq_true h2)]; exact ez)
    have ntr : ∀ z o, H1 z = some o → z ≠ a0 ∧ z ≠ kS := fun z o ez => ⟨fun h => (by rw [h, p1.2.1] at ez; cases ez), fun h => (by rw [h, p3.2.1] at ez; cases ez)⟩
    have Ip : Inv X pins σ H1 s1 := I1.pins_of fun p hp => I1.pin p (List.mem_append_right _ (List.mem_append_left _ hp))
    have zl : (((xs.zip ks).mergeSort (dataLe false fun b => b.2)).map (·.1)).length ≤ sizeLine := by
      rw [List.length_map, pm.length_eq, List.length_zip]
      omega
    have If : Inv X pins σ (upd H1 a0 (.lst (((xs.zip ks).mergeSort (dataLe false fun b => b.2)).map (·.1)))) { s1 with heap := h3, toks := tk3 } := by
      refine Ip.step (g' := s1.gens) (d' := s1.drawn) (ch := [a0, kS]) (fun z hz => ?_) (fun z o _ _ hc ez _ => kk z o (fun h => hc (by simp [h])) (fun h => hc (by simp [h])) ez) (fun z o _ _ hc ez _ => ⟨o.slots, kk z o (fun h => hc (by simp [h])) (fun h => hc (by simp [h])) ez⟩)
        (fun z o hc _ ez => by rw [upd_ne (fun h => hc (by simp [h]))]; exact ez) (fun z o hc ez => ⟨o, kk z o (fun h => hc (by simp [h])) (fun h => hc (by simp [h])) ez⟩) (fun z ys ez => by rw [upd_ne (ntr z _ ez).1]; exact ez) (fun z o ys ez => by rw [upd_ne (ntr z _ ez).1]; exact ez)
        (fun z ps ez => ⟨#[], by rw [upd_ne (ntr z _ ez).1, ez]; simp⟩) (fun m hm => ?_) (fun z o ez => ?_) Ip.bare
      · simp only [List.mem_cons, List.not_mem_nil, or_false] at hz
        rcases hz with rfl | rfl
        · exact ⟨.inr fa.2.2.2.1, fa.2.1, fa.2.2.2.2.1, fa.2.2.2.2.2⟩
        · exact ⟨.inr fk.2.2.2.1, fk.2.1, fk.2.2.2.2.1, fk.2.2.2.2.2⟩
      · obtain ⟨o, es, ep, ho, r⟩ := hm
        exact ⟨o, es, ep, kk _ o (Ne.symm fa.2.1) (Ne.symm fk.2.1) ho, r⟩
      · by_cases hza : z = a0
        · rw [hza, upd_same] at ez
          cases ez
          rw [hza]
          exact ⟨zl, _, c3, rv2, n3⟩
        · rw [upd_ne hza] at ez
          refine (Ip.hok z o ez).stay (fun c w hc q => kk c w ?_ ?_ q) (fun d q => by rw [upd_ne (ntr d _ q).1]; exact q) fun d ys q => by rw [upd_ne (ntr d _ q).1]; exact q
          · rcases hc with h | h
            · rw [h]; exact hza
            · exact (ntr c _ h).1
          · rcases hc with h | h
            · rw [h]; exact (ntr z _ ez).2
            · exact (ntr c _ h).2
    exact ⟨.ref a0, _, If, rfl, hq _ a0 H1 rfl S1 p1.2.1⟩
theorem pe_sortK {b : Str} {c P : Addr} {k : Nat} {params : Arguments} {body : Expr} {scope : Scope} {t : V → TE} {ta : TE} {e : Expr} {p lpos kpos pos : Pos}
    (hG : X.A.guards = some []) (hr : Room (k + 3) X.A) (hm : X.mg "sorted" = none)
    (TB : LamX.TabB X.base X.mg c P) (hcode : X.env.code = .ref c) (hmT : (P, X.env.qual ++ "<lambda>") ∈ LamT.T) (hu : ∀ p ∈ LamT.T, p.1 = P → p.2 = X.env.qual ++ "<lambda>") (L : LamS1 X.env.scope scope b) (hna : b ∉ X.N) (hdef : defaultsOf params X.env = ([], []))
    (hbind : ∀ (u : Value) (q : Str) (cl : List (Str × Addr)) (pm cv ctv : Value), bindArgs (PySem.W.kla_fn "<lambda>" q params body scope cl pm cv ctv) ⟨[u], []⟩ = pure [(b, u)])
    (hbody : ∀ (A : Around) (outer : List Env) (s : Shared) (H : Hp) (f c' : Addr) (v : V), A.guards = some [] → Room k (A.deeper (LamX.lamEnv X scope s.heap.objs.size f c')) → PE (lamCx1 X A outer s H scope f c' b) body (t v))
    (ha : PE X e ta) (hg : Gl X "sorted" := by rfl)
    (he : backTo pos (starEach [e] X.env) = (false, eval e X.env) :: backTo pos (starEach [] X.env) := by rfl) (hpl : (backTo pos (starEach [e] X.env)).any (·.1) = false := by rfl)
    (hs : starEach [e] X.env = (false, eval e X.env) :: starEach [] X.env := by rfl) :
    PE X (.Call (.Name "sorted" p) [e] [⟨some "key", .Lambda params body scope lpos, kpos⟩] pos) (tSortK (X.env.qual ++ "<lambda>") X.K t ta) := by
  refine ⟨fun pins s σ H Q I h => ?_⟩
  refine wpAny_Call_Name_kw (ld_blt (u := .builtin "sorted") I hg hm (by decide +kernel) ?_ (by decide))
  refine PyProof.Rows.callWith_kw ?_ he hpl (by rfl) (by rfl)
  rw [he]
  refine Calls.spliced_cons (thn (ha.run pins s σ H _ I h) fun u1 s1 ⟨v1, H1, I1, r1, hT, h1⟩ => Calls.spliced_nil ?_)
  show wpAny _ _ (evalAll [(do let v ← eval (.Lambda params body scope lpos) X.env; standAt pos; pure v)]) _ _ s1
  refine wpAny_evalAll_cons (wpAny_bind (lam_make1 I1 TB hcode hmT hu hT hdef (L.has I.ok) fun f c' pm' ctv H2 s2 I2 S2 hsz hf hfn hco => wpAny_bind (wpAny_standAt (wpAny_pure (wpAny_evalAll_nil ?_)))))
  have nfs : f ∉ X.fs := I1.nofs hsz
  have nloc : f ≠ X.env.locals := fun z => by
    have h1 := I1.lt
    rw [z] at hsz
    exact Nat.lt_irrefl _ (Nat.lt_of_lt_of_le h1 hsz)
  have hr1 : Room (k + 1) X.A.in1.in1 := Room.in1 (k := k + 1) (Room.in1 (k := k + 2) hr)
  exact sort_key_run I2 L hna hf hfn nloc nfs (fun u => hbind u _ _ _ _ _) hr (fun s H v => hbody X.A.in1.in1 X.stack s H f c' v hG (hr1.deeper _)) hco r1 (h1 c' H2 S2 hco)
end
section
variable {K : PySem.W.Frag} {δ : List Slot}
theorem ec_sortK {q : Str} {t : V → TE} {ta : TE} {k : Res → Prop} (h : EvC K ta δ fun x => ∃ (ds : List PyData) (g : PyData → PyData), x.items = some ds ∧ AllAlike (ds.map g) ∧ Sortable (ds.map g) ∧ (∀ d ∈ ds, (g d).depth ≤ 60) ∧ (∀ d ∈ ds, ∀ v : V, EvC K (t v) (δ.map datSD ++ [.dat d]) fun r => r = .dat (g d)) ∧ k (.fresh (ds.mergeSort (dataLe false g)))) :
    EvC K (tSortK q K t ta) δ k := by
  intro B H σ R Q gQ
  refine h B H σ R _ fun v1 H1 x e1 o1 ⟨ds, g, hx, hal, hso, hdp, hb, hk⟩ => ?_
  refine ⟨e1.tabs R.tabs, fun c' H2 S2 hco => ?_⟩
  have o2 := o1.grow S2
  have eA := e1.trans S2
  obtain ⟨a, xs, rfl, h1, h2⟩ := o2.list (R.same.trans eA) hx
  have hl := h2.length
  refine ⟨a, xs, ds.map g, rfl, h1, by rw [List.length_map, hl], hal, hso, fun d hd => ?_, fun i xv d hxv hd H3 Q1 S3 fin => ?_, fun zs p H3 hz S3 hn => ?_⟩
  · obtain ⟨d0, hd0, rfl⟩ := List.mem_map.mp hd
    exact hdp d0 hd0
  · rw [List.getElem?_map] at hd
    obtain ⟨d0, hd0, rfl⟩ := Option.map_eq_some_iff.mp hd
    have im : Im K H2 xv d0 := by
      have hzip : (xv, d0) ∈ xs.zip ds := List.mem_of_getElem? (i := i) (by rw [List.getElem?_zip_eq_some]; exact ⟨hxv, hd0⟩)
      exact im_zip h2 _ hzip
    refine hb d0 (List.mem_of_getElem? hd0) xv H3 H3 _ (rel_lamD (R.grow eA) (per_same S3) ((eA.trans S3).tabs R.tabs) (R.x.2.same (R.same.trans (eA.trans S3))) (im.to (per_same S3))) Q1 fun u H' r e5 o5 hr => ?_
    subst hr
    exact fin u H' e5 o5
  · have hzip : xs.zip (ds.map g) = (xs.zip ds).map fun b => (b.1, g b.2) := by rw [List.zip_map_right]; rfl
    have em : zs = ((xs.zip ds).mergeSort (dataLe false fun b => g b.2)).map fun b => (b.1, g b.2) := by
      rw [hz, hzip]
      exact (sort_maps (r := dataLe false fun b : V × PyData => g b.2) (s := dataLe false fun b : V × PyData => b.2) (fun b : V × PyData => (b.1, g b.2)) (fun _ _ _ _ => rfl)).symm
    have e1' : zs.map (·.1) = ((xs.zip ds).mergeSort (dataLe false fun b => g b.2)).map (·.1) := by
      rw [em, List.map_map]
      rfl
    have e2' : ((xs.zip ds).mergeSort (dataLe false fun b => g b.2)).map (·.2) = ds.mergeSort (dataLe false g) := by
      have e3 : (xs.zip ds).map (fun b : V × PyData => b.2) = ds := List.map_snd_zip (by omega)
      exact (sort_maps (r := dataLe false fun b : V × PyData => g b.2) (s := dataLe false g) (fun b : V × PyData => b.2) (fun _ _ _ _ => rfl)).trans (by rw [e3])
    have iz : ImAll K H3 (zs.map (·.1)) (ds.mergeSort (dataLe false g)) := by
      rw [e1', ← e2']
      have pm : ((xs.zip ds).mergeSort (dataLe false fun b => g b.2)).Perm (xs.zip ds) := List.mergeSort_perm _ _
      exact im_of_zip _ fun z hz => im_zip (imAll_same h2 S3) z (pm.mem_iff.mp hz)
    exact gQ _ _ _ ((eA.trans S3).trans (same_new hn)) (rFreshN (eA.trans S3) hn iz) hk
end
/-- fn_ok, with the def's code object told -/
theorem fn_okC {P : Program} {w : World} {K : PySem.W.Frag} {mg : Str → Option Value} {base : Heap} {x qual : Str} {st : Stmt} {f : Addr} {fd : FuncData} {N ps : List Str} {n : Nat} {sp : ASp} (F : L2.Fun K x qual st f fd) (S : FnScope N ps (defScope st))
    (hlen : ∀ rs k, sp rs k → rs.length = ps.length)
    (body : ∀ (cdv : Value) (A : Around) (outer : List Env) (s : Shared) (H : Hp) (E : XK) (rs : List Res) (k : Res → Prop), fd.code = cdv → A.guards = some [] → Room n (A.deeper (PyProof.Rows.envOfC qual (defScope st) s.heap.objs.size f cdv)) → sp rs k →
      ∃ t, PSs (cxOf CX0 P w K mg base N qual (defScope st) f cdv A outer s H E).nox (defBody st) t ∧ SD K t { nx := fun _ => k (.dat .none), rt := fun r => isRet r = true ∧ k r } (entry N rs)) : FnG P w K mg base CX0 (n + 1) f fd ps (spOf K sp) := by
  obtain ⟨oc, od, kV, doc, pm, an, cdv, ct, osl, rfl, lk, hcd⟩ := F.ex
  have len : ∀ vs H Q E, spOf K sp vs H Q E → vs.length = ps.length := fun vs H Q E h => by
    obtain ⟨rs, k, h1, h2, _⟩ := h
    rw [h1.1.length]
    exact hlen rs k h2
  refine ⟨len, fun A outer s H args us vs Q E hg hr e0 hb rv hs => ?_⟩
  refine LamX.run_ofS (N := N) (ps := ps) (us := us) (vs := vs) lk hcd S hr e0 hb rv (len _ _ _ _ hs) fun hr' => ?_
  obtain ⟨rs, k, h1, h2, h3⟩ := hs
  obtain ⟨t, pt, sd⟩ := body cdv A outer s H E rs k rfl hg hr' h2
  exact ⟨t, pt.nox, sd H H _ (rel_start h1 trivial) _ ⟨fun σ H' δ R hk => h3 _ _ _ R.same rfl rNon hk, fun v H' r e o hk => h3 v H' r e hk.1 o hk.2, fun _ _ _ _ z => z.elim, fun _ _ _ _ z => z.elim⟩⟩
end Dl

namespace My
variable [Dl.LamT]
open PySem PySem.Spec L2 Dl
open Frac RowLaw
/-! ## fame, goals, what is dark, what is seen -/
def wtI (ps : List Lamp) (i : Nat) : Int := (ps.map (·.wt)).getD i 0
def fameC (ps : List Lamp) : List Col := (List.range ps.length).map fun i => (-(wtI ps i), ((i : Nat) : Int))
def fameI (ps : List Lamp) : List Nat := ((fameC ps).mergeSort leC).map fun c => c.2.toNat
theorem fameI_perm (ps : List Lamp) : (fameI ps).Perm (List.range ps.length) := by
  refine ((List.mergeSort_perm (fameC ps) leC).map _).trans ?_
  unfold fameC
  rw [List.map_map]
  exact .of_eq (List.map_id _)
theorem fameI_d (ps : List Lamp) : ((fameC ps).mergeSort leC).map (fun c => PyData.int c.2) = (fameI ps).map natD := by
  unfold fameI
  rw [List.map_map]
  refine List.map_congr_left fun c hc => ?_
  obtain ⟨i, _, rfl⟩ := List.mem_map.mp ((List.mergeSort_perm (fameC ps) leC).mem_iff.mp hc)
  rfl
theorem fameI_len (ps : List Lamp) : (fameI ps).length = ps.length := by rw [(fameI_perm ps).length_eq, List.length_range]
theorem fameI_nd (ps : List Lamp) : (fameI ps).Nodup := (fameI_perm ps).nodup_iff.mpr List.nodup_range
theorem fameI_lt {ps : List Lamp} {i : Nat} (h : i ∈ fameI ps) : i < ps.length := List.mem_range.mp ((fameI_perm ps).mem_iff.mp h)
/-- what the law's lambda tells -/
def keyF (ps : List Lamp) : PyData → PyData
  | .int i => .tuple [.int (0 - wtI ps i.toNat), .int i]
  | _ => .none
theorem keyF_nat (ps : List Lamp) (i : Nat) : keyF ps (natD i) = cD (-(wtI ps i), ((i : Nat) : Int)) := by
  show PyData.tuple [.int (0 - wtI ps ((i : Nat) : Int).toNat), .int (i : Nat)] = _
  rw [Int.toNat_natCast, Int.zero_sub]
  rfl
theorem keyF_all (ps : List Lamp) : ((List.range ps.length).map natD).map (keyF ps) = (fameC ps).map cD := by
  unfold fameC
  rw [List.map_map, List.map_map]
  exact List.map_congr_left fun i _ => keyF_nat ps i
theorem fame_key (ps : List Lamp) : ((List.range ps.length).map natD).mergeSort (PySem.W.dataLe false (keyF ps)) = (fameI ps).map natD := by
  have e1 : ((List.range ps.length).mergeSort fun i j => leC (-(wtI ps i), ((i : Nat) : Int)) (-(wtI ps j), ((j : Nat) : Int))).map natD = ((List.range ps.length).map natD).mergeSort (PySem.W.dataLe false (keyF ps)) := by
    refine PySem.W.sort_maps natD fun a _ b _ => ?_
    rw [← le_cD]
    show PySem.W.dataLe false cD _ _ = PySem.W.dataLe false id (keyF ps (natD a)) (keyF ps (natD b))
    rw [keyF_nat, keyF_nat]
    rfl
  have e2 : ((List.range ps.length).mergeSort fun i j => leC (-(wtI ps i), ((i : Nat) : Int)) (-(wtI ps j), ((j : Nat) : Int))).map (fun i => ((-(wtI ps i), ((i : Nat) : Int)) : Col)) = (fameC ps).mergeSort leC :=
    PySem.W.sort_maps (fun i => ((-(wtI ps i), ((i : Nat) : Int)) : Col)) fun a _ b _ => rfl
  rw [← e1, ← fameI_d, ← e2, List.map_map]
  rfl
theorem fame_down (ps : List Lamp) : (fameI ps).Pairwise fun i j => wtI ps j ≤ wtI ps i := by
  unfold fameI
  refine List.pairwise_map.mpr ?_
  have hp := List.pairwise_mergeSort (le := leC) (fun a b c h g => leC_trans h g) leC_tot (fameC ps)
  refine hp.imp_of_mem fun {a b} ha hb h => ?_
  obtain ⟨i, _, rfl⟩ := List.mem_map.mp ((List.mergeSort_perm (fameC ps) leC).mem_iff.mp ha)
  obtain ⟨j, _, rfl⟩ := List.mem_map.mp ((List.mergeSort_perm (fameC ps) leC).mem_iff.mp hb)
  have h := of_decide_eq_true h
  dsimp only at h
  show wtI ps ((j : Nat) : Int).toNat ≤ wtI ps ((i : Nat) : Int).toNat
  rw [Int.toNat_natCast, Int.toNat_natCast]
  omega
theorem fame_cut {ps : List Lamp} {m i j : Nat} (hi : i ∈ (fameI ps).take m) (hj : j ∈ (fameI ps).drop m) : wtI ps j ≤ wtI ps i := by
  have h := fame_down ps
  rw [← List.take_append_drop m (fameI ps)] at h
  exact (List.pairwise_append.mp h).2.2 i hi j hj
theorem fame_part {ps : List Lamp} {m i : Nat} (hi : i < ps.length) : i ∈ (fameI ps).take m ↔ i ∉ (fameI ps).drop m := by
  have hn := fameI_nd ps
  have hm : i ∈ fameI ps := (fameI_perm ps).mem_iff.mpr (List.mem_range.mpr hi)
  rw [← List.take_append_drop m (fameI ps)] at hn hm
  rw [List.nodup_append] at hn
  constructor
  · intro h1 h2
    exact hn.2.2 i h1 i h2 rfl
  · intro h
    exact (List.mem_append.mp hm).resolve_right h
def darkC (ps : List Lamp) (m : Nat) : List Nat := ((fameI ps).drop m).mergeSort fun a b => decide (a ≤ b)
theorem dark_d (ps : List Lamp) (m : Nat) : (((fameI ps).drop m).map natD).mergeSort (PySem.W.dataLe false id) = (darkC ps m).map natD := by
  unfold darkC
  refine (PySem.W.sort_maps natD fun a _ b _ => ?_).symm
  show _ = PySem.W.dataLe false id (PyData.int ((a : Nat) : Int)) (.int ((b : Nat) : Int))
  have e : PySem.W.dataLe false PyData.int = fun a b : Int => decide (a ≤ b) := PySem.W.dataLe_int (fun c : Int => c)
  have e2 : PySem.W.dataLe false id (PyData.int ((a : Nat) : Int)) (.int ((b : Nat) : Int)) = PySem.W.dataLe false PyData.int ((a : Nat) : Int) ((b : Nat) : Int) := rfl
  rw [e2, e]
  show decide _ = decide _
  congr 1
  exact propext (by omega)
theorem darkC_perm (ps : List Lamp) (m : Nat) : (darkC ps m).Perm ((fameI ps).drop m) := List.mergeSort_perm _ _
theorem darkC_len (ps : List Lamp) (m : Nat) : (darkC ps m).length = ps.length - m := by rw [(darkC_perm ps m).length_eq, List.length_drop, fameI_len]
theorem darkC_lt {ps : List Lamp} {m i : Nat} (h : i ∈ darkC ps m) : i < ps.length := fameI_lt (List.mem_of_mem_drop ((darkC_perm ps m).mem_iff.mp h))
theorem dark_lit {ps : List Lamp} {m i j : Nat} (hi : i < ps.length) (h : i ∉ darkC ps m) (hj : j ∈ darkC ps m) : wtI ps j ≤ wtI ps i :=
  fame_cut (m := m) ((fame_part hi).mpr fun z => h ((darkC_perm ps m).mem_iff.mpr z)) ((darkC_perm ps m).mem_iff.mp hj)
def goalsC (s : Int) (ps : List Lamp) (m : Nat) : List Col := ((fameI ps).take m).map (seatC s ps)
theorem goalsC_len (s : Int) (ps : List Lamp) (m : Nat) : (goalsC s ps m).length ≤ ps.length := by unfold goalsC; rw [List.length_map, List.length_take, fameI_len]; omega
theorem goalsC_sub {s : Int} {ps : List Lamp} {m : Nat} : ∀ c ∈ goalsC s ps m, c ∈ seatsC s ps := fun c hc => by
  obtain ⟨i, hi, rfl⟩ := List.mem_map.mp hc
  exact List.mem_map_of_mem ((fameI_perm ps).mem_iff.mp (List.mem_of_mem_take hi))
/-! shades -/
def namesD : List PyData := [.str "red", .str "blue", .str "dark", .str "gold", .str (repS "n" 12), .str "w"]
def ShD (d : PyData) : Prop := ∃ ds : List PyData, d = .tuple ds ∧ 0 < ds.length ∧ ds.length ≤ 12 ∧ ∀ e ∈ ds, e ∈ namesD
def LpD (l : Lamp) : Prop := Bp l ∧ ShD l.sh ∧ (0 ≤ l.wt ∧ l.wt ≤ 3)
def shAt (d : PyData) (t : Nat) : PyData := match d with
  | .tuple ds => ds.getD (t % ds.length) .none
  | _ => .none
def lampAtF (ps : List Lamp) (i : Nat) : Lamp := ps.getD i ⟨0, 0, .none, 0⟩
def seenOne (l : Lamp) (t : Nat) : PyData := .tuple [.int l.x, .int l.z, shAt l.sh t]
def seenC (s : Int) (ps : List Lamp) (cols : List Col) (t n : Nat) : List PyData := ((List.range n).filter fun i => decide (seatC s ps i ∈ cols)).map fun i => seenOne (lampAtF ps i) t
theorem seenC_snoc (s : Int) (ps : List Lamp) (cols : List Col) (t n : Nat) : seenC s ps cols t (n + 1) = seenC s ps cols t n ++ if seatC s ps n ∈ cols then [seenOne (lampAtF ps n) t] else [] := by
  unfold seenC
  rw [List.range_succ, List.filter_append, List.map_append]
  congr 1
  by_cases h : seatC s ps n ∈ cols
  · rw [if_pos h]
    simp only [List.filter_cons, List.filter_nil, decide_eq_true h, if_true]
    rfl
  · rw [if_neg h]
    simp only [List.filter_cons, List.filter_nil, decide_eq_false h]
    rfl
theorem seenC_len (s : Int) (ps : List Lamp) (cols : List Col) (t n : Nat) : (seenC s ps cols t n).length ≤ n := by
  unfold seenC
  rw [List.length_map]
  exact Nat.le_trans (List.length_filter_le ..) (by rw [List.length_range]; exact Nat.le_refl _)
theorem lampAtF_get {ps : List Lamp} {i : Nat} (h : i < ps.length) : ps[i]? = some (lampAtF ps i) := by
  unfold lampAtF
  rw [List.getD_eq_getElem?_getD, List.getElem?_eq_getElem h]
  rfl
theorem wtI_get {ps : List Lamp} {i : Nat} (h : i < ps.length) : (lampAtF ps i).wt = wtI ps i := by
  unfold wtI
  rw [List.getD_eq_getElem?_getD, List.getElem?_map, lampAtF_get h]
  rfl
theorem seat_get {s : Int} {ps : List Lamp} {i : Nat} (h : i < ps.length) : (seatsC s ps)[i]? = some (seatC s ps i) := by
  unfold seatsC
  rw [List.getElem?_map, List.getElem?_range h]
  rfl
theorem small_name {d : PyData} (h : d ∈ namesD) : Small 20 0 d := by
  unfold namesD at h
  simp only [List.mem_cons, List.not_mem_nil, or_false] at h
  rcases h with rfl | rfl | rfl | rfl | rfl | rfl <;> exact ⟨by decide +kernel, by decide +kernel, by decide +kernel, by decide +kernel⟩
theorem small_sh {d : PyData} (h : ShD d) : Small 300 1 d := by
  obtain ⟨ds, rfl, _, h2, h3⟩ := h
  exact (small_tup (L := 20) (D := 0) 12 h2 fun e he => small_name (h3 e he)).mono (by decide) (by decide)
theorem shAt_in {d : PyData} (h : ShD d) (t : Nat) : shAt d t ∈ namesD := by
  obtain ⟨ds, rfl, h1, _, h3⟩ := h
  have hl : t % ds.length < ds.length := Nat.mod_lt _ h1
  show ds.getD (t % ds.length) .none ∈ namesD
  rw [List.getD_eq_getElem?_getD, List.getElem?_eq_getElem hl]
  exact h3 _ (List.getElem_mem hl)
theorem small_i8 {i : Int} (h : i.natAbs < 10 ^ 7) : Small 300 1 (.int i) := (small_int 7 (by decide) (by decide) h).mono (by decide) (by decide)
theorem small_lamp {l : Lamp} (h : LpD l) : Small 1400 2 (lampD l) := by
  obtain ⟨⟨b1, b2⟩, h2, h3⟩ := h
  refine (small_tup (L := 300) (D := 1) 4 (by simp) fun x hx => ?_).mono (by decide) (by decide)
  simp only [List.mem_cons, List.not_mem_nil, or_false] at hx
  rcases hx with rfl | rfl | rfl | rfl
  · exact small_i8 (by omega)
  · exact small_i8 (by omega)
  · exact small_sh h2
  · exact small_i8 (by omega)
theorem small_pic {ps : List Lamp} (hl : ps.length ≤ 14) (h : ∀ l ∈ ps, LpD l) : Small 20000 3 (.tuple (ps.map lampD)) := by
  refine (small_tup (L := 1400) (D := 2) 14 (by rw [List.length_map]; exact hl) fun x hx => ?_).mono (by decide) (by decide)
  obtain ⟨l, hl, rfl⟩ := List.mem_map.mp hx
  exact small_lamp (h l hl)
theorem small_nats {is : List Nat} (hl : is.length ≤ 14) (h : ∀ i ∈ is, i < 1000) : Small 500 1 (.tuple (is.map natD)) := by
  refine (small_tup (L := 8) (D := 0) 14 (by rw [List.length_map]; exact hl) fun x hx => ?_).mono (by decide) (by decide)
  obtain ⟨i, hi, rfl⟩ := List.mem_map.mp hx
  have := h i hi
  exact small_int 7 (by decide) (by decide) (by omega)
theorem small_cols {cs : List Col} (hl : cs.length ≤ 14) (h : ∀ c ∈ cs, Nr 1000 c) : Small 500 2 (.tuple (cs.map cD)) := by
  refine (small_tup (L := 23) (D := 1) 14 (by rw [List.length_map]; exact hl) fun x hx => ?_).mono (by decide) (by decide)
  obtain ⟨c, hc, rfl⟩ := List.mem_map.mp hx
  exact small_cD (h c hc) (by decide)
theorem seat_nr {s : Int} {ps : List Lamp} (hs : 0 ≤ s ∧ s ≤ 30) (hl : ps.length ≤ 14) (hb : ∀ l ∈ ps, LpD l) : ∀ c ∈ seatsC s ps, Nr 1000 c := by
  intro c hc
  obtain ⟨i, hi, rfl⟩ := List.mem_map.mp hc
  have hi : i < ps.length := List.mem_range.mp hi
  have e1 : (ps.map (·.x)).getD i 0 = ps[i].x := by
    rw [List.getD_eq_getElem?_getD, List.getElem?_map, List.getElem?_eq_getElem hi]
    rfl
  have hx := (hb _ (List.getElem_mem hi)).1.1
  have rl := rows_len s (ps.map (·.x))
  rw [List.length_map] at rl
  have hr := row_le s (ps.map (·.x)) ((rowsOf s (ps.map (·.x))).getD i 0) (by
    rw [List.getD_eq_getElem?_getD, List.getElem?_eq_getElem (by omega)]
    exact List.getElem_mem _)
  rw [List.length_map] at hr
  show (-1000 ≤ (ps.map (·.x)).getD i 0 ∧ (ps.map (·.x)).getD i 0 ≤ 1000) ∧ (-1000 ≤ (((rowsOf s (ps.map (·.x))).getD i 0 : Nat) : Int) * s ∧ (((rowsOf s (ps.map (·.x))).getD i 0 : Nat) : Int) * s ≤ 1000)
  rw [e1]
  generalize (rowsOf s (ps.map (·.x))).getD i 0 = r at *
  have h3 : (r : Int) * s ≤ 14 * 30 := Int.mul_le_mul (by omega) hs.2 hs.1 (by decide)
  have h4 : 0 ≤ (r : Int) * s := Int.mul_nonneg (by omega) hs.1
  omega
theorem small_seen {s : Int} {ps : List Lamp} {cols : List Col} {t : Nat} (hl : ps.length ≤ 14) (hb : ∀ l ∈ ps, LpD l) : Small 2000 2 (.tuple (seenC s ps cols t ps.length)) := by
  refine (small_tup (L := 100) (D := 1) 14 (Nat.le_trans (seenC_len ..) hl) fun x hx => ?_).mono (by decide) (by decide)
  obtain ⟨i, hi, rfl⟩ := List.mem_map.mp hx
  have hi := List.mem_range.mp (List.mem_filter.mp hi).1
  have hm := hb _ (List.mem_of_getElem? (lampAtF_get hi))
  generalize lampAtF ps i = l at *
  obtain ⟨⟨b1, b2⟩, h2, h3⟩ := hm
  refine (small_tup (L := 20) (D := 0) 3 (by simp) fun x hx => ?_).mono (by decide) (by decide)
  simp only [List.mem_cons, List.not_mem_nil, or_false] at hx
  rcases hx with rfl | rfl | rfl
  · exact (small_int 7 (by decide) (by decide) (by omega)).mono (by decide) (by decide)
  · exact (small_int 7 (by decide) (by decide) (by omega)).mono (by decide) (by decide)
  · exact small_name (shAt_in h2 t)
/-! specs -/
def sp_shadesF : ASp := fun rs k => rs = [.bag] ∧ ∀ d, ShD d → k (.dat d)
def sp_picF : ASp := fun rs k => rs = [.bag] ∧ ∀ ps : List Lamp, ps.length ≤ 14 → Asc ps → (∀ l ∈ ps, LpD l) → k (.dat (.tuple (ps.map lampD)))
def sp_dotF : ASp := fun rs k => ∃ w : Int, rs = [.bag, .dat (.int w)] ∧ (0 < w ∧ w < 1000) ∧ ∀ c : Col, Nr w c → k (.dat (cD c))
def sp_lrowsF : ASp := fun rs k => ∃ (ps : List Lamp) (s : Int), rs = [.dat (.tuple (ps.map lampD)), .dat (.int s)] ∧ ps.length ≤ 20 ∧ (ps.map (·.x)).Pairwise (· ≤ ·) ∧ k (.dat (.tuple ((rowsOf s (ps.map (·.x))).map natD)))
def sp_lseatsF : ASp := fun rs k => ∃ (ps : List Lamp) (s : Int), rs = [.dat (.tuple (ps.map lampD)), .dat (.int s)] ∧ ps.length ≤ 20 ∧ (-1000000 < s ∧ s < 1000000) ∧ (ps.map (·.x)).Pairwise (· ≤ ·) ∧ k (.dat (.tuple ((seatsC s ps).map cD)))
def sp_fameF : ASp := fun rs k => ∃ ps : List Lamp, rs = [.dat (.tuple (ps.map lampD))] ∧ ps.length ≤ 20 ∧ k (.dat (.tuple ((fameI ps).map natD)))
def sp_goalsF : ASp := fun rs k => ∃ (ps : List Lamp) (s : Int) (m : Nat), rs = [.dat (.tuple (ps.map lampD)), .dat (.int s), .dat (.int (m : Nat))] ∧ ps.length ≤ 20 ∧ (-1000000 < s ∧ s < 1000000) ∧ m ≤ 1000 ∧ k (.dat (.tuple ((goalsC s ps m).map cD)))
def sp_darkF : ASp := fun rs k => ∃ (ps : List Lamp) (m : Nat), rs = [.dat (.tuple (ps.map lampD)), .dat (.int (m : Nat))] ∧ ps.length ≤ 20 ∧ m ≤ 1000 ∧ k (.dat (.tuple ((darkC ps m).map natD)))
def sp_shadeat : ASp := fun rs k => ∃ (d : PyData) (t : Nat), rs = [.dat d, .dat (.int (t : Nat))] ∧ ShD d ∧ t ≤ 10000 ∧ k (.dat (shAt d t))
def sp_seenF : ASp := fun rs k => ∃ (x : Res) (ps : List Lamp) (s : Int) (cols : List Col) (t : Nat), rs = [.dat (.tuple (ps.map lampD)), .dat (.int s), x, .dat (.int (t : Nat))] ∧ (x = .bor (cols.map cD) ∨ x = .dat (.tuple (cols.map cD)) ∨ x = .dat (.list (cols.map cD))) ∧ cols.length ≤ 60 ∧ ps.length ≤ 20 ∧ (-1000000 < s ∧ s < 1000000) ∧ (∀ l ∈ ps, LpD l) ∧ t ≤ 10000 ∧ k (.dat (.tuple (seenC s ps cols t ps.length)))
theorem lampD_inj {l m : Lamp} (h : lampD l = lampD m) : l = m := by
  obtain ⟨a, b, c, d⟩ := l
  obtain ⟨a', b', c', d'⟩ := m
  unfold lampD at h
  simp only [PyData.tuple.injEq, List.cons.injEq, PyData.int.injEq, and_true] at h
  obtain ⟨rfl, rfl, rfl, rfl⟩ := h
  rfl
theorem shD_rep {out : List PyData} {n m : Int} (ho : out.length = (n - 0).toNat) (hp : ∀ (i : Nat) (d : PyData), out[i]? = some d → d ∈ namesD) (n0 : 1 ≤ n ∧ n ≤ 4) (m0 : 0 < m) (m1 : m ≤ 3) : ShD (.tuple (List.replicate m.toNat out).flatten) := by
  have hl : (List.replicate m.toNat out).flatten.length = m.toNat * out.length := by rw [List.length_flatten, List.map_replicate, List.sum_replicate_nat]
  have h1 : 0 < m.toNat * out.length := Nat.mul_pos (by omega) (by omega)
  have h2 : m.toNat * out.length ≤ 3 * 4 := Nat.mul_le_mul (by omega) (by omega)
  refine ⟨_, rfl, by omega, by omega, fun e he => ?_⟩
  obtain ⟨l, hl, he⟩ := List.mem_flatten.mp he
  rw [(List.mem_replicate.mp hl).2] at he
  obtain ⟨i, hi, e1⟩ := List.mem_iff_getElem.mp he
  exact hp i e (by rw [List.getElem?_eq_getElem hi, e1])
theorem sort_nats {x : Res} {is : List Nat} {k : Res → Prop} (hx : x.items = some (is.map natD) ∨ x = .dat (.tuple (is.map natD))) (g : k (.fresh ((is.map natD).mergeSort (PySem.W.dataLe false id)))) : SortDP [x] k := by
  refine .mk hx (fun d hd e he => ?_) (.inr fun d hd => ?_) (fun d hd => ?_) g
  · obtain ⟨a, _, rfl⟩ := List.mem_map.mp hd
    obtain ⟨b, _, rfl⟩ := List.mem_map.mp he
    simp [natD, PySem.W.alike]
  · obtain ⟨a, _, rfl⟩ := List.mem_map.mp hd
    exact ⟨(nomatch ·), fun xs h => nomatch h⟩
  · obtain ⟨a, _, rfl⟩ := List.mem_map.mp hd
    simp [natD, PyData.depth]
theorem putG_len {κ β : Type} [DecidableEq κ] (l : List (κ × β)) (k : κ) (y : β) : (putG l k y).length ≤ l.length + 1 := by
  unfold putG
  split
  · rw [List.length_map]
    omega
  · rw [List.length_append]
    exact Nat.le_refl _
theorem zip_seats (s : Int) (ps : List Lamp) : zipD (ps.map lampD) ((seatsC s ps).map cD) = (List.range ps.length).map fun i => .tuple [lampD (lampAtF ps i), cD (seatC s ps i)] := by
  refine List.ext_getElem? fun i => ?_
  by_cases h : i < ps.length
  · have g1 : (ps.map lampD)[i]? = some (lampD (lampAtF ps i)) := by rw [List.getElem?_map, lampAtF_get h]; rfl
    have g2 : ((seatsC s ps).map cD)[i]? = some (cD (seatC s ps i)) := by rw [List.getElem?_map, seat_get h]; rfl
    rw [zipD_get g1 g2, List.getElem?_map, List.getElem?_range h]
    rfl
  · rw [List.getElem?_eq_none (by rw [zipD_len, List.length_map, List.length_map, seatsC_len]; omega), List.getElem?_eq_none (by rw [List.length_map, List.length_range]; omega)]
theorem pre_at {n i : Nat} {pre post : List Nat} (h : List.range n = pre ++ i :: post) : i = pre.length ∧ pre.length < n := by
  have hlt : pre.length < n := by
    have := congrArg List.length h
    simp at this
    omega
  have : (List.range n)[pre.length]? = some i := by rw [h]; simp
  rw [List.getElem?_range hlt] at this
  exact ⟨(Option.some.inj this).symm, hlt⟩
theorem small2 {x y : PyData} (hx : Small 500 1 x) (hy : Small 500 2 y) : Tells (.list [x, y]) := by
  refine Small.tells (L := 2000) (D := 3) ((small_lst (L := 500) (D := 2) 2 (by simp) fun d hd => ?_).mono (by decide) (by decide)) (by decide) (by decide)
  simp only [List.mem_cons, List.not_mem_nil, or_false] at hd
  rcases hd with rfl | rfl
  · exact hx.mono (by decide) (by decide)
  · exact hy
theorem small2' {x y : PyData} (hx : Small 500 2 x) (hy : Small 500 1 y) : Tells (.list [x, y]) := by
  refine Small.tells (L := 2000) (D := 3) ((small_lst (L := 500) (D := 2) 2 (by simp) fun d hd => ?_).mono (by decide) (by decide)) (by decide) (by decide)
  simp only [List.mem_cons, List.not_mem_nil, or_false] at hd
  rcases hd with rfl | rfl
  · exact hx
  · exact hy.mono (by decide) (by decide)
theorem small3 {x y z : PyData} (hx : Small 2000 2 x) (hy : Small 2000 2 y) (hz : Small 2000 2 z) : Tells (.list [x, y, z]) := by
  refine Small.tells (L := 8000) (D := 3) ((small_lst (L := 2000) (D := 2) 3 (by simp) fun d hd => ?_).mono (by decide) (by decide)) (by decide) (by decide)
  simp only [List.mem_cons, List.not_mem_nil, or_false] at hd
  rcases hd with rfl | rfl | rfl
  · exact hx
  · exact hy
  · exact hz
theorem rg_nat (n : Nat) : rgD 0 n = (List.range n).map natD := by
  refine List.ext_getElem? fun i => ?_
  by_cases h : i < n
  · rw [rgD_get h, List.getElem?_map, List.getElem?_range h, Int.zero_add]
    rfl
  · rw [List.getElem?_eq_none (by rw [rgD_len]; omega), List.getElem?_eq_none (by rw [List.length_map, List.length_range]; omega)]
theorem any_natF (is : List Nat) (j : Nat) : ((is.map natD).any fun z => PyData.eqv z (.int (j : Nat))) = decide (j ∈ is) := any_nat is j
theorem any_col (cs : List Col) (c : Col) : ((cs.map cD).any fun z => PyData.eqv z (cD c)) = decide (c ∈ cs) := by
  rw [List.any_map]
  induction cs with
  | nil => rfl
  | cons i r ih =>
    rw [List.any_cons, ih]
    show (PyData.eqv (cD i) (cD c) || decide (c ∈ r)) = _
    rw [eqv_cD, ← Bool.decide_or]
    exact decide_eq_decide.mpr ⟨fun h => by
      rcases h with rfl | h
      · simp
      · exact List.mem_cons_of_mem _ h, fun h => by
      rcases List.mem_cons.mp h with rfl | h
      · exact .inl rfl
      · exact .inr h⟩
theorem lc_sub {K : PySem.W.Frag} {δ : List Slot} {k : Res → Prop} {te : TE} {g : TG} {tt : TT} {vs : List Nat} {β : Type} (xs : List β) (enc out : β → PyData) (hz : xs.length ≤ 1000000)
    (h : ∀ x ∈ xs, GE K g (.dat (enc x)) (wipeS δ vs) (fun j => j ∈ vs) fun δ' => EvT K tt δ' fun b => b = true → EvC K te δ' fun r => r = .dat (out x))
    (hk : ∀ ys : List β, ys.Sublist xs → k (.fresh (ys.map out))) : LcP K (xs.map enc) g tt te vs δ k := by
  refine ⟨fun i acc => ∃ ys : List β, ys.Sublist (xs.take i) ∧ acc = ys.map out, ⟨[], List.nil_sublist _, rfl⟩, by simpa using hz, fun i d acc hd ⟨ys, hy, ha⟩ => ?_, fun o ⟨ys, hy, ho⟩ => ?_⟩
  · rw [List.getElem?_map] at hd
    obtain ⟨x, hx, rfl⟩ := Option.map_eq_some_iff.mp hd
    have tk : xs.take (i + 1) = xs.take i ++ [x] := by rw [List.take_add_one, hx]; rfl
    refine (h x (List.mem_of_getElem? hx)).imp fun δ' ev => ev.imp fun b br => ⟨fun hb => (br hb).imp fun r hr => ⟨_, hr, ys ++ [x], by rw [tk]; exact hy.append (List.Sublist.refl _), by rw [ha, List.map_append]; rfl⟩, fun _ => ⟨ys, by rw [tk]; exact hy.trans (List.sublist_append_left _ _), ha⟩⟩
  · rw [List.length_map, List.take_length] at hy
    rw [ho]
    exact hk ys hy
theorem perm_cols {cs : List Col} {es : List PyData} (h : es.Perm (cs.map cD)) : ∃ ds : List Col, es = ds.map cD ∧ ds.Perm cs := perm_map_inv h cs rfl
theorem sh_natT (is : List Nat) : SeqAt.shaped (.tuple (is.map natD)) = true := sh_tup 0 (by decide) fun d hd => by
  obtain ⟨i, _, rfl⟩ := List.mem_map.mp hd
  exact ⟨by simp [natD, PyData.canLay0], by simp [natD, PyData.depth]⟩
theorem sh_colL (cs : List Col) : SeqAt.shaped (.list (cs.map cD)) = true := sh_lst 1 (by decide) fun d hd => by
  obtain ⟨c, _, rfl⟩ := List.mem_map.mp hd
  exact ⟨by simp [cD, PyData.canLay0, PyData.canLayAll0], by simp [cD, PyData.depth, PyData.depthAll]⟩
theorem seenC_nil (s : Int) (ps : List Lamp) (t n : Nat) : seenC s ps [] t n = [] := by
  unfold seenC
  have e : ((List.range n).filter fun i => decide (seatC s ps i ∈ ([] : List Col))) = [] := List.filter_eq_nil_iff.mpr fun i _ => by simp
  rw [e]
  rfl
theorem filt_no {β : Type} (l : List β) (f : β → PyData) : (l.filter fun _ => false).map f = [] := by
  rw [List.filter_eq_nil_iff.mpr fun i _ => by simp]
  rfl
theorem dark_step (ps : List Lamp) (m : Nat) (h : 0 < m) : (((darkC ps (m - 1)).map natD).length : Int) - (((darkC ps m).map natD).length : Int) = if decide ((m : Int) ≤ (((ps.map lampD).length : Nat) : Int)) = true then 1 else 0 := by
  rw [List.length_map, List.length_map, List.length_map, darkC_len, darkC_len]
  by_cases hc : (m : Int) ≤ (ps.length : Nat)
  · rw [if_pos (decide_eq_true hc)]
    omega
  · rw [if_neg (by rw [decide_eq_false hc]; exact Bool.false_ne_true)]
    omega
end My

--@SORTD dark_of fame law
--@TKEY seen_from
--@SETN _law_shape
--@DICT seen_from stand
--@TAB _law_fame 121 117
namespace My
variable [Dl.LamT]
open PySem PySem.Spec L2 Dl
def topS (i : Nat) : Stmt := PySem.Challenge.pw_lampsaloft_k18_fame_and_goals.main.body.getD i (.Pass ⟨0, 0, 0, 0⟩)
abbrev s_shade_at : Stmt := topS 1
theorem sc_shade_at : FnScope ["shades", "tick"] ["shades", "tick"] (defScope s_shade_at) := ⟨rfl, rfl, rfl, by decide +kernel, rfl, by decide +kernel, by decide +kernel⟩
abbrev s_rows_of : Stmt := topS 3
theorem sc_rows_of : FnScope ["picture", "spacing", "last", "found", "lamp", "row", "free", "x"] ["picture", "spacing"] (defScope s_rows_of) := ⟨rfl, rfl, rfl, by decide +kernel, rfl, by decide +kernel, by decide +kernel⟩
abbrev s_seats_of : Stmt := topS 5
theorem sc_seats_of : FnScope ["picture", "spacing", "lamp", "row"] ["picture", "spacing"] (defScope s_seats_of) := ⟨rfl, rfl, rfl, by decide +kernel, rfl, by decide +kernel, by decide +kernel⟩
abbrev s_fame : Stmt := topS 6
theorem sc_fame : FnScope ["picture", "_less", "index", "lamp"] ["picture"] (defScope s_fame) := ⟨rfl, rfl, rfl, by decide +kernel, rfl, by decide +kernel, by decide +kernel⟩
abbrev s_goals_of : Stmt := topS 7
theorem sc_goals_of : FnScope ["picture", "spacing", "many", "seats", "index"] ["picture", "spacing", "many"] (defScope s_goals_of) := ⟨rfl, rfl, rfl, by decide +kernel, rfl, by decide +kernel, by decide +kernel⟩
abbrev s_dark_of : Stmt := topS 8
theorem sc_dark_of : FnScope ["picture", "many"] ["picture", "many"] (defScope s_dark_of) := ⟨rfl, rfl, rfl, by decide +kernel, rfl, by decide +kernel, by decide +kernel⟩
abbrev s_seen_from : Stmt := topS 9
theorem sc_seen_from : FnScope ["picture", "spacing", "columns", "tick", "stand", "found", "x", "z", "shades", "_weight", "seat", "one"] ["picture", "spacing", "columns", "tick"] (defScope s_seen_from) := ⟨rfl, rfl, rfl, by decide +kernel, rfl, by decide +kernel, by decide +kernel⟩
abbrev s__law_bag : Stmt := topS 11
theorem sc__law_bag : FnScope ["_law_script", "_law_cell"] ["_law_script"] (defScope s__law_bag) := ⟨rfl, rfl, rfl, by decide +kernel, rfl, by decide +kernel, by decide +kernel⟩
abbrev s__law_take : Stmt := topS 12
theorem sc__law_take : FnScope ["_law_bag_here", "_law_many", "_law_cell", "_law_stirred", "_law_value", "_law_begin", "_law_second"] ["_law_bag_here", "_law_many"] (defScope s__law_take) := ⟨rfl, rfl, rfl, by decide +kernel, rfl, by decide +kernel, by decide +kernel⟩
abbrev s__law_some : Stmt := topS 13
theorem sc__law_some : FnScope ["_law_bag_here", "_law_things"] ["_law_bag_here", "_law_things"] (defScope s__law_some) := ⟨rfl, rfl, rfl, by decide +kernel, rfl, by decide +kernel, by decide +kernel⟩
abbrev s__law_mixed : Stmt := topS 14
theorem sc__law_mixed : FnScope ["_law_bag_here", "_law_things", "_law_found", "_law_thing"] ["_law_bag_here", "_law_things"] (defScope s__law_mixed) := ⟨rfl, rfl, rfl, by decide +kernel, rfl, by decide +kernel, by decide +kernel⟩
abbrev s__law_alike : Stmt := topS 15
theorem sc__law_alike : FnScope ["_law_found", "_law_due"] ["_law_found", "_law_due"] (defScope s__law_alike) := ⟨rfl, rfl, rfl, by decide +kernel, rfl, by decide +kernel, by decide +kernel⟩
abbrev s__law_dot : Stmt := topS 16
theorem sc__law_dot : FnScope ["_law_bag_here", "_law_wide"] ["_law_bag_here", "_law_wide"] (defScope s__law_dot) := ⟨rfl, rfl, rfl, by decide +kernel, rfl, by decide +kernel, by decide +kernel⟩
abbrev s__law_shades : Stmt := topS 17
theorem sc__law_shades : FnScope ["_law_bag_here", "_law_names", "_law_some_here", "_law_turn"] ["_law_bag_here"] (defScope s__law_shades) := ⟨rfl, rfl, rfl, by decide +kernel, rfl, by decide +kernel, by decide +kernel⟩
abbrev s__law_shape : Stmt := topS 18
theorem sc__law_shape : FnScope ["_law_points"] ["_law_points"] (defScope s__law_shape) := ⟨rfl, rfl, rfl, by decide +kernel, rfl, by decide +kernel, by decide +kernel⟩
abbrev s__law_rows : Stmt := topS 19
theorem sc__law_rows : FnScope ["_law_picture", "_law_spacing", "_law_found", "_law_at", "_law_lamp", "_law_barred", "_law_k", "_law_row"] ["_law_picture", "_law_spacing"] (defScope s__law_rows) := ⟨rfl, rfl, rfl, by decide +kernel, rfl, by decide +kernel, by decide +kernel⟩
abbrev s__law_seats : Stmt := topS 20
theorem sc__law_seats : FnScope ["_law_picture", "_law_spacing", "_law_lamp", "_law_row"] ["_law_picture", "_law_spacing"] (defScope s__law_seats) := ⟨rfl, rfl, rfl, by decide +kernel, rfl, by decide +kernel, by decide +kernel⟩
abbrev s__law_fame : Stmt := topS 21
theorem sc__law_fame : FnScope ["_law_picture"] ["_law_picture"] (defScope s__law_fame) := ⟨rfl, rfl, rfl, by decide +kernel, rfl, by decide +kernel, by decide +kernel⟩
abbrev s__law_close_picture : Stmt := topS 22
theorem sc__law_close_picture : FnScope ["_law_bag_here", "_law_wide", "_law_dots", "_law_lamps", "_law_turn", "_law_x", "_law_z"] ["_law_bag_here"] (defScope s__law_close_picture) := ⟨rfl, rfl, rfl, by decide +kernel, rfl, by decide +kernel, by decide +kernel⟩
abbrev s_law : Stmt := topS 23
theorem sc_law : FnScope ["_law_script", "_law_bag_here", "_law_turn", "_law_picture", "_law_spacing", "_law_seats_here", "_law_order", "_law_said", "_law_before", "_law_many", "_law_goals", "_law_dark", "_law_due", "_law_lit", "_law_stand", "_law_tick", "_law_told", "_law_lamp", "_law_seat", "_law_at", "_law_place", "_law_one"] ["_law_script"] (defScope s_law) := ⟨rfl, rfl, rfl, by decide +kernel, rfl, by decide +kernel, by decide +kernel⟩
structure Tp (K : PySem.W.Frag) (mg : Str → Option Value) where
  st : LamT.st = false
  f_shade_at : Addr
  fd_shade_at : FuncData
  F_shade_at : Fun K "shade_at" "shade_at" s_shade_at f_shade_at fd_shade_at
  m_shade_at : mg "shade_at" = some (.ref f_shade_at)
  b_shade_at : Binds K fd_shade_at ["shades", "tick"] []
  f_rows_of : Addr
  fd_rows_of : FuncData
  F_rows_of : Fun K "rows_of" "rows_of" s_rows_of f_rows_of fd_rows_of
  m_rows_of : mg "rows_of" = some (.ref f_rows_of)
  b_rows_of : Binds K fd_rows_of ["picture", "spacing"] []
  f_seats_of : Addr
  fd_seats_of : FuncData
  F_seats_of : Fun K "seats_of" "seats_of" s_seats_of f_seats_of fd_seats_of
  m_seats_of : mg "seats_of" = some (.ref f_seats_of)
  b_seats_of : Binds K fd_seats_of ["picture", "spacing"] []
  f_fame : Addr
  fd_fame : FuncData
  F_fame : Fun K "fame" "fame" s_fame f_fame fd_fame
  m_fame : mg "fame" = some (.ref f_fame)
  b_fame : Binds K fd_fame ["picture"] []
  f_goals_of : Addr
  fd_goals_of : FuncData
  F_goals_of : Fun K "goals_of" "goals_of" s_goals_of f_goals_of fd_goals_of
  m_goals_of : mg "goals_of" = some (.ref f_goals_of)
  b_goals_of : Binds K fd_goals_of ["picture", "spacing", "many"] []
  f_dark_of : Addr
  fd_dark_of : FuncData
  F_dark_of : Fun K "dark_of" "dark_of" s_dark_of f_dark_of fd_dark_of
  m_dark_of : mg "dark_of" = some (.ref f_dark_of)
  b_dark_of : Binds K fd_dark_of ["picture", "many"] []
  f_seen_from : Addr
  fd_seen_from : FuncData
  F_seen_from : Fun K "seen_from" "seen_from" s_seen_from f_seen_from fd_seen_from
  m_seen_from : mg "seen_from" = some (.ref f_seen_from)
  b_seen_from : Binds K fd_seen_from ["picture", "spacing", "columns", "tick"] []
  f__law_bag : Addr
  fd__law_bag : FuncData
  F__law_bag : Fun K "_law_bag" "_law_bag" s__law_bag f__law_bag fd__law_bag
  m__law_bag : mg "_law_bag" = some (.ref f__law_bag)
  b__law_bag : Binds K fd__law_bag ["_law_script"] []
  f__law_take : Addr
  fd__law_take : FuncData
  F__law_take : Fun K "_law_take" "_law_take" s__law_take f__law_take fd__law_take
  m__law_take : mg "_law_take" = some (.ref f__law_take)
  b__law_take : Binds K fd__law_take ["_law_bag_here", "_law_many"] []
  f__law_some : Addr
  fd__law_some : FuncData
  F__law_some : Fun K "_law_some" "_law_some" s__law_some f__law_some fd__law_some
  m__law_some : mg "_law_some" = some (.ref f__law_some)
  b__law_some : Binds K fd__law_some ["_law_bag_here", "_law_things"] []
  f__law_mixed : Addr
  fd__law_mixed : FuncData
  F__law_mixed : Fun K "_law_mixed" "_law_mixed" s__law_mixed f__law_mixed fd__law_mixed
  m__law_mixed : mg "_law_mixed" = some (.ref f__law_mixed)
  b__law_mixed : Binds K fd__law_mixed ["_law_bag_here", "_law_things"] []
  f__law_alike : Addr
  fd__law_alike : FuncData
  F__law_alike : Fun K "_law_alike" "_law_alike" s__law_alike f__law_alike fd__law_alike
  m__law_alike : mg "_law_alike" = some (.ref f__law_alike)
  b__law_alike : Binds K fd__law_alike ["_law_found", "_law_due"] []
  f__law_dot : Addr
  fd__law_dot : FuncData
  F__law_dot : Fun K "_law_dot" "_law_dot" s__law_dot f__law_dot fd__law_dot
  m__law_dot : mg "_law_dot" = some (.ref f__law_dot)
  b__law_dot : Binds K fd__law_dot ["_law_bag_here", "_law_wide"] []
  f__law_shades : Addr
  fd__law_shades : FuncData
  F__law_shades : Fun K "_law_shades" "_law_shades" s__law_shades f__law_shades fd__law_shades
  m__law_shades : mg "_law_shades" = some (.ref f__law_shades)
  b__law_shades : Binds K fd__law_shades ["_law_bag_here"] []
  f__law_shape : Addr
  fd__law_shape : FuncData
  F__law_shape : Fun K "_law_shape" "_law_shape" s__law_shape f__law_shape fd__law_shape
  m__law_shape : mg "_law_shape" = some (.ref f__law_shape)
  b__law_shape : Binds K fd__law_shape ["_law_points"] []
  f__law_rows : Addr
  fd__law_rows : FuncData
  F__law_rows : Fun K "_law_rows" "_law_rows" s__law_rows f__law_rows fd__law_rows
  m__law_rows : mg "_law_rows" = some (.ref f__law_rows)
  b__law_rows : Binds K fd__law_rows ["_law_picture", "_law_spacing"] []
  f__law_seats : Addr
  fd__law_seats : FuncData
  F__law_seats : Fun K "_law_seats" "_law_seats" s__law_seats f__law_seats fd__law_seats
  m__law_seats : mg "_law_seats" = some (.ref f__law_seats)
  b__law_seats : Binds K fd__law_seats ["_law_picture", "_law_spacing"] []
  f__law_fame : Addr
  fd__law_fame : FuncData
  F__law_fame : Fun K "_law_fame" "_law_fame" s__law_fame f__law_fame fd__law_fame
  m__law_fame : mg "_law_fame" = some (.ref f__law_fame)
  b__law_fame : Binds K fd__law_fame ["_law_picture"] []
  f__law_close_picture : Addr
  fd__law_close_picture : FuncData
  F__law_close_picture : Fun K "_law_close_picture" "_law_close_picture" s__law_close_picture f__law_close_picture fd__law_close_picture
  m__law_close_picture : mg "_law_close_picture" = some (.ref f__law_close_picture)
  b__law_close_picture : Binds K fd__law_close_picture ["_law_bag_here"] []
  f_law : Addr
  fd_law : FuncData
  F_law : Fun K "law" "law" s_law f_law fd_law
  m_law : mg "law" = some (.ref f_law)
  b_law : Binds K fd_law ["_law_script"] []
  z_abs : mg "abs" = none
  z_enumerate : mg "enumerate" = none
  z_int : mg "int" = none
  z_len : mg "len" = none
  z_list : mg "list" = none
  z_range : mg "range" = none
  z_repr : mg "repr" = none
  z_set : mg "set" = none
  z_sorted : mg "sorted" = none
  z_tuple : mg "tuple" = none
  z_zip : mg "zip" = none
/-! one step of the walk over abstract slots, where no choice is -/
local macro_rules | `(tactic| walk_at "g1") => `(tactic| (with_reducible refine ec_dnewK ?_))
local macro_rules | `(tactic| walk_at "g1") => `(tactic| (with_reducible refine ec_dnewT ?_))
local macro_rules | `(tactic| walk_at "g1") => `(tactic| (with_reducible refine ec_cb cbSortDic ?_))
local macro_rules | `(tactic| walk_at "g1") => `(tactic| (with_reducible refine ec_cb cbListDic ?_))
local macro_rules | `(tactic| walk_at "g1") => `(tactic| (with_reducible refine ec_dcA ?_))
local macro_rules | `(tactic| walk_at "g1") => `(tactic| (with_reducible refine itl_keys ?_))
local macro_rules | `(tactic| walk_at "g1") => `(tactic| (with_reducible refine itl_vals ?_))
local macro_rules | `(tactic| walk_at "g1") => `(tactic| (with_reducible refine itl_items ?_))
local macro_rules | `(tactic| walk_at "g1") => `(tactic| (with_reducible refine ite_keys ?_))
local macro_rules | `(tactic| walk_at "g1") => `(tactic| (with_reducible refine ite_vals ?_))
local macro_rules | `(tactic| walk_at "g1") => `(tactic| (with_reducible refine ite_items ?_))
local macro_rules | `(tactic| walk_at "g1") => `(tactic| (with_reducible refine ec_get1 ?_))
local macro_rules | `(tactic| walk_at "g1") => `(tactic| (with_reducible refine ec_get2 ?_))
local macro_rules | `(tactic| walk_at "g1") => `(tactic| (with_reducible refine ec_idx ?_))
local macro_rules | `(tactic| walk_at "g1") => `(tactic| (with_reducible refine ec_dictZip ?_))
local macro_rules | `(tactic| walk_at "g1") => `(tactic| (with_reducible refine ec_dictEnum ?_))
local macro_rules | `(tactic| walk_at "g1") => `(tactic| (with_reducible refine ec_cb cbDictPairs ?_))
local macro_rules | `(tactic| walk_at "g1") => `(tactic| (with_reducible refine ec_reprD ?_))
local macro_rules | `(tactic| walk_at "g1") => `(tactic| (with_reducible refine ec_listDn ?_))
local macro_rules | `(tactic| walk_at "g1") => `(tactic| ((with_reducible refine' sd_retOwnD ?h1 ?_); case h1 => exact rfl))
local macro_rules | `(tactic| walk_at "g1") => `(tactic| (refine ⟨_, rfl, ?_⟩))
local macro_rules | `(tactic| walk_at "g1") => `(tactic| ((refine ⟨_, rfl, ?h1, ?_⟩); (case h1 => (dsimp only [List.length]; decide)); (try dsimp only)))
local macro_rules | `(tactic| walk_at "g1") => `(tactic| (refine ⟨⟨(by omega), (by omega)⟩, fun _ _ _ => ?_⟩))
local macro_rules | `(tactic| walk_at "g1") => `(tactic| (refine' SlP.lst ?h1 ?_; case h1 => exact rfl))
local macro_rules | `(tactic| walk_at "g1") => `(tactic| (refine' ListP.lst ?h1 ?_; case h1 => exact rfl))
local macro_rules | `(tactic| walk_at "g1") => `(tactic| (refine' TupleP.lst ?h1 ?_; case h1 => exact rfl))
local macro_rules | `(tactic| walk_at "g1") => `(tactic| (refine' LenP.lst ?h1 ?_; case h1 => exact rfl))
local macro_rules | `(tactic| walk_at "g1") => `(tactic| (refine' ixq_lst ?h1 ?h2 ?_; (case h1 => exact rfl); (case h2 => exact rfl)))
local macro_rules | `(tactic| walk_at "g1") => `(tactic| ((with_reducible refine' ixq_tup ?h1 ?_); case h1 => exact rfl))
local macro_rules | `(tactic| walk_at "g1") => `(tactic| ((with_reducible refine pow_i ?h1 ?_); case h1 => exact ⟨by decide, by decide, by decide⟩))
local macro_rules | `(tactic| walk_at "g1") => `(tactic| ((with_reducible refine mult_r ?h1 ?h2 ?_); (case h1 => omega); (case h2 => omega)))
local macro_rules | `(tactic| walk_at "g1") => `(tactic| ((with_reducible refine mult_l ?h1 ?h2 ?_); (case h1 => omega); (case h2 => omega)))
local macro_rules | `(tactic| walk_at "g1") => `(tactic| ((with_reducible refine fdvq_p ?h1 ?_); case h1 => (first | assumption | (refine cdv ?_ ?_ <;> omega))))
local macro_rules | `(tactic| walk_at "g1") => `(tactic| ((with_reducible refine mod_i ?h1 ?_); case h1 => omega))
local macro_rules | `(tactic| walk_at "g1") => `(tactic| (with_reducible refine IxQ.bag3 fun _ _ => ?_))
local macro_rules | `(tactic| walk_at "g1") => `(tactic| (with_reducible refine IxQ.bag2 fun _ _ => ?_))
local macro_rules | `(tactic| walk_at "g1") => `(tactic| (with_reducible refine IxQ.bag1 fun _ _ _ => ?_))
local macro_rules | `(tactic| walk_at "g1") => `(tactic| (with_reducible refine IxQ.bag0 fun _ _ => ?_))
local macro_rules | `(tactic| walk_at "g1") => `(tactic| (with_reducible refine Br.f ?_))
local macro_rules | `(tactic| walk_at "g1") => `(tactic| (with_reducible refine Br.t ?_))
local macro_rules | `(tactic| walk_at "g1") => `(tactic| (with_reducible refine SlP.tup ?_))
local macro_rules | `(tactic| walk_at "g1") => `(tactic| (with_reducible refine ListP.tup ?_))
local macro_rules | `(tactic| walk_at "g1") => `(tactic| (with_reducible refine TupleP.tup ?_))
local macro_rules | `(tactic| walk_at "g1") => `(tactic| (with_reducible refine LenP.tup ?_))
local macro_rules | `(tactic| walk_at "g1") => `(tactic| (with_reducible refine ToIntP.bool ?_))
local macro_rules | `(tactic| walk_at "g1") => `(tactic| (with_reducible refine ToIntP.int ?_))
local macro_rules | `(tactic| walk_at "g1") => `(tactic| (with_reducible refine Int2P.mk ?_))
local macro_rules | `(tactic| walk_at "g1") => `(tactic| ((with_reducible refine FdvQ.z ?h1 ?_); case h1 => assumption))
local macro_rules | `(tactic| walk_at "g1") => `(tactic| (with_reducible refine GcdP.mk ?_))
local macro_rules | `(tactic| walk_at "g1") => `(tactic| (with_reducible refine AbsP.mk ?_))
local macro_rules | `(tactic| walk_at "g1") => `(tactic| (with_reducible refine TrP.int ?_))
local macro_rules | `(tactic| walk_at "g1") => `(tactic| (with_reducible refine TrP.bool ?_))
local macro_rules | `(tactic| walk_at "g1") => `(tactic| ((with_reducible refine mult_w ?h1 ?_); case h1 => (first | assumption | (refine cmw ?_ ?_ ?_ ?_ <;> omega))))
local macro_rules | `(tactic| walk_at "g1") => `(tactic| (with_reducible refine NoP.dat ?_))
local macro_rules | `(tactic| walk_at "g1") => `(tactic| (with_reducible refine neq_i ?_))
local macro_rules | `(tactic| walk_at "g1") => `(tactic| (with_reducible refine NeQ.s ?_))
local macro_rules | `(tactic| walk_at "g1") => `(tactic| (with_reducible refine EqQ.s ?_))
local macro_rules | `(tactic| walk_at "g1") => `(tactic| (with_reducible refine eqq_i ?_))
local macro_rules | `(tactic| walk_at "g1") => `(tactic| (with_reducible refine LtP.int ?_))
local macro_rules | `(tactic| walk_at "g1") => `(tactic| (with_reducible refine ge_i ?_))
local macro_rules | `(tactic| walk_at "g1") => `(tactic| (with_reducible refine gt_i ?_))
local macro_rules | `(tactic| walk_at "g1") => `(tactic| (with_reducible refine le_i ?_))
local macro_rules | `(tactic| walk_at "g1") => `(tactic| (with_reducible refine sub_i ?_))
local macro_rules | `(tactic| walk_at "g1") => `(tactic| ((with_reducible refine' AddP.lst ?h1 ?h2 ?h3 ?_); (case h1 => exact rfl); (case h2 => exact rfl); (case h3 => (first | (dsimp only [List.length]; decide) | assumption | (simp only [List.length_append, List.length_cons, List.length_nil, sizeLine]; omega)))))
local macro_rules | `(tactic| walk_at "g1") => `(tactic| (with_reducible refine AddP.int ?_))
local macro_rules | `(tactic| walk_at "g1") => `(tactic| (with_reducible refine et_not ?_))
local macro_rules | `(tactic| walk_at "g1") => `(tactic| (with_reducible refine et_or ?_))
local macro_rules | `(tactic| walk_at "g1") => `(tactic| (with_reducible refine et_and ?_))
local macro_rules | `(tactic| walk_at "g1") => `(tactic| (with_reducible refine et_tr ?_))
local macro_rules | `(tactic| walk_at "g1") => `(tactic| (with_reducible refine et_test ?_))
local macro_rules | `(tactic| walk_at "g1") => `(tactic| (with_reducible refine ea_nil ?_))
local macro_rules | `(tactic| walk_at "g1") => `(tactic| (with_reducible refine ea_cons ?_))
local macro_rules | `(tactic| walk_at "g1") => `(tactic| (with_reducible refine eo_some ?_))
local macro_rules | `(tactic| walk_at "g1") => `(tactic| (with_reducible refine eo_none ?_))
local macro_rules | `(tactic| walk_at "g1") => `(tactic| (with_reducible refine itl_r2 ?_))
local macro_rules | `(tactic| walk_at "g1") => `(tactic| (with_reducible refine ite_r2 ?_))
local macro_rules | `(tactic| walk_at "g1") => `(tactic| (with_reducible refine itl_r1 ?_))
local macro_rules | `(tactic| walk_at "g1") => `(tactic| (with_reducible refine ite_r1 ?_))
local macro_rules | `(tactic| walk_at "g1") => `(tactic| (with_reducible refine itl_seq ?_))
local macro_rules | `(tactic| walk_at "g1") => `(tactic| (with_reducible refine ite_seq ?_))
local macro_rules | `(tactic| walk_at "g1") => `(tactic| (with_reducible refine et_yes ?_))
local macro_rules | `(tactic| walk_at "g1") => `(tactic| (with_reducible refine ec_bagc ?_))
local macro_rules | `(tactic| walk_at "g1") => `(tactic| (with_reducible refine ite_enum ?_))
local macro_rules | `(tactic| walk_at "g1") => `(tactic| (with_reducible refine itl_enum ?_))
local macro_rules | `(tactic| walk_at "g1") => `(tactic| (with_reducible refine ite_zip ?_))
local macro_rules | `(tactic| walk_at "g1") => `(tactic| (with_reducible refine itl_zip ?_))
local macro_rules | `(tactic| walk_at "g1") => `(tactic| (with_reducible refine ec_tupZip ?_))
local macro_rules | `(tactic| walk_at "g1") => `(tactic| (with_reducible refine ec_cb cbIsqrt ?_))
local macro_rules | `(tactic| walk_at "g1") => `(tactic| (with_reducible refine ec_isi ?_))
local macro_rules | `(tactic| walk_at "g1") => `(tactic| (with_reducible refine ec_cb cbGcd ?_))
local macro_rules | `(tactic| walk_at "g1") => `(tactic| (with_reducible refine ec_cb cbRepr ?_))
local macro_rules | `(tactic| walk_at "g1") => `(tactic| (with_reducible refine ec_cb cbSortedA ?_))
local macro_rules | `(tactic| walk_at "g1") => `(tactic| (with_reducible refine ec_sortSet ?_))
local macro_rules | `(tactic| walk_at "g1") => `(tactic| (with_reducible refine ec_listRg ?_))
local macro_rules | `(tactic| walk_at "g1") => `(tactic| (with_reducible refine ea_star ?_))
local macro_rules | `(tactic| walk_at "g1") => `(tactic| (with_reducible refine ec_cb cbMinA ?_))
local macro_rules | `(tactic| walk_at "g1") => `(tactic| (with_reducible refine ec_cb cbMax1 ?_))
local macro_rules | `(tactic| walk_at "g1") => `(tactic| (with_reducible refine ec_cb cbMin2 ?_))
local macro_rules | `(tactic| walk_at "g1") => `(tactic| (with_reducible refine ec_cb cbMax2 ?_))
local macro_rules | `(tactic| walk_at "g1") => `(tactic| (with_reducible refine ec_cb cbAll ?_))
local macro_rules | `(tactic| walk_at "g1") => `(tactic| (with_reducible refine ec_cb cbSum ?_))
local macro_rules | `(tactic| walk_at "g1") => `(tactic| (with_reducible refine ec_cb cbTuple ?_))
local macro_rules | `(tactic| walk_at "g1") => `(tactic| (with_reducible refine ec_cb cbList ?_))
local macro_rules | `(tactic| walk_at "g1") => `(tactic| (with_reducible refine ec_cb cbInt ?_))
local macro_rules | `(tactic| walk_at "g1") => `(tactic| (with_reducible refine ec_cb cbLen ?_))
local macro_rules | `(tactic| walk_at "g1") => `(tactic| (with_reducible refine ec_cb cbAbs ?_))
local macro_rules | `(tactic| walk_at "g1") => `(tactic| (with_reducible refine ec_revT ?_))
local macro_rules | `(tactic| walk_at "g1") => `(tactic| (with_reducible refine ec_chain opLe opLe ?_))
local macro_rules | `(tactic| walk_at "g1") => `(tactic| (with_reducible refine ec_lc ?_))
local macro_rules | `(tactic| walk_at "g1") => `(tactic| (with_reducible refine ec_call ?_))
local macro_rules | `(tactic| walk_at "g1") => `(tactic| (with_reducible refine ec_not ?_))
local macro_rules | `(tactic| walk_at "g1") => `(tactic| (with_reducible refine ec_or ?_))
local macro_rules | `(tactic| walk_at "g1") => `(tactic| (with_reducible refine ec_and ?_))
local macro_rules | `(tactic| walk_at "g1") => `(tactic| (with_reducible refine ec_if ?_))
local macro_rules | `(tactic| walk_at "g1") => `(tactic| (with_reducible refine ec_frz ?_))
local macro_rules | `(tactic| walk_at "g1") => `(tactic| (with_reducible refine ec_lst ?_))
local macro_rules | `(tactic| walk_at "g1") => `(tactic| (with_reducible refine ec_tup ?_))
local macro_rules | `(tactic| walk_at "g1") => `(tactic| (with_reducible refine ec_sl ?_))
local macro_rules | `(tactic| walk_at "g1") => `(tactic| (with_reducible refine ec_neg ?_))
local macro_rules | `(tactic| walk_at "g1") => `(tactic| (with_reducible refine IsB.mk ?_))
local macro_rules | `(tactic| walk_at "g1") => `(tactic| (with_reducible refine ec_op opNotBl ?_))
local macro_rules | `(tactic| walk_at "g1") => `(tactic| (with_reducible refine ec_op opIsBl ?_))
local macro_rules | `(tactic| walk_at "g1") => `(tactic| (with_reducible refine ec_op opNotNo ?_))
local macro_rules | `(tactic| walk_at "g1") => `(tactic| (with_reducible refine ec_op opIsNo ?_))
local macro_rules | `(tactic| walk_at "g1") => `(tactic| (with_reducible refine ec_op opNotInA ?_))
local macro_rules | `(tactic| walk_at "g1") => `(tactic| (with_reducible refine ec_op opInA ?_))
local macro_rules | `(tactic| walk_at "g1") => `(tactic| (with_reducible refine ec_op opPow ?_))
local macro_rules | `(tactic| walk_at "g1") => `(tactic| (with_reducible refine ec_op opFdvA ?_))
local macro_rules | `(tactic| walk_at "g1") => `(tactic| (with_reducible refine ec_op opMod ?_))
local macro_rules | `(tactic| walk_at "g1") => `(tactic| (with_reducible refine ec_op opGe ?_))
local macro_rules | `(tactic| walk_at "g1") => `(tactic| (with_reducible refine ec_op opGt ?_))
local macro_rules | `(tactic| walk_at "g1") => `(tactic| (with_reducible refine ec_op opLe ?_))
local macro_rules | `(tactic| walk_at "g1") => `(tactic| (with_reducible refine ec_op opLt ?_))
local macro_rules | `(tactic| walk_at "g1") => `(tactic| (with_reducible refine ec_op opNeA ?_))
local macro_rules | `(tactic| walk_at "g1") => `(tactic| (with_reducible refine ec_op opEqA ?_))
local macro_rules | `(tactic| walk_at "g1") => `(tactic| (with_reducible refine ec_op opIxA ?_))
local macro_rules | `(tactic| walk_at "g1") => `(tactic| (with_reducible refine ec_op opMulC ?_))
local macro_rules | `(tactic| walk_at "g1") => `(tactic| (with_reducible refine ec_op opSub ?_))
local macro_rules | `(tactic| walk_at "g1") => `(tactic| (with_reducible refine ec_op opAdd ?_))
local macro_rules | `(tactic| walk_at "g1") => `(tactic| (with_reducible refine ec_str ?_))
local macro_rules | `(tactic| walk_at "g1") => `(tactic| (with_reducible refine ec_bl ?_))
local macro_rules | `(tactic| walk_at "g1") => `(tactic| (with_reducible refine ec_non ?_))
local macro_rules | `(tactic| walk_at "g1") => `(tactic| (with_reducible refine ec_int ?_))
local macro_rules | `(tactic| walk_at "g1") => `(tactic| ((with_reducible refine' ec_var ?h1 ?h2 ?_); (case h1 => exact rfl); (case h2 => (first | exact rfl | assumption))))
local macro_rules | `(tactic| walk_at "g1") => `(tactic| ((with_reducible refine ge_tup ?h1 ?_); case h1 => exact rfl))
local macro_rules | `(tactic| walk_at "g1") => `(tactic| (with_reducible refine ges_nil ?_))
local macro_rules | `(tactic| walk_at "g1") => `(tactic| (with_reducible refine ges_cons ?_))
local macro_rules | `(tactic| walk_at "g1") => `(tactic| ((with_reducible refine ge_name ?h1 ?_); (case h1 => decide); (try dsimp only [List.set, sto])))
local macro_rules | `(tactic| walk_at "g1") => `(tactic| ((with_reducible refine gs_tup ?h1 ?_); case h1 => exact rfl))
local macro_rules | `(tactic| walk_at "g1") => `(tactic| (with_reducible refine gss_nil ?_))
local macro_rules | `(tactic| walk_at "g1") => `(tactic| (with_reducible refine gss_cons ?_))
local macro_rules | `(tactic| walk_at "g1") => `(tactic| ((with_reducible refine gs_name ?_); (try dsimp only [List.set, sto])))
local macro_rules | `(tactic| walk_at "g1") => `(tactic| (with_reducible refine sd_retN ?_))
local macro_rules | `(tactic| walk_at "g1") => `(tactic| (with_reducible refine sd_next ?_))
local macro_rules | `(tactic| walk_at "g1") => `(tactic| ((with_reducible refine sd_aug ?h1 ?_); case h1 => exact rfl))
local macro_rules | `(tactic| walk_at "g1") => `(tactic| ((with_reducible refine' sd_append ?h1 ?h2 ?_); (case h1 => exact rfl); (case h2 => (first | decide | omega | (dsimp only [List.length]; decide) | (simp only [List.length_append, List.length_cons, List.length_nil]; omega)))))
local macro_rules | `(tactic| walk_at "g1") => `(tactic| (with_reducible refine sd_for ?_))
local macro_rules | `(tactic| walk_at "g1") => `(tactic| (with_reducible refine sd_ret ?_))
local macro_rules | `(tactic| walk_at "g1") => `(tactic| ((with_reducible refine' sd_retOwn ?h1 ?_); case h1 => exact rfl))
local macro_rules | `(tactic| walk_at "g1") => `(tactic| (with_reducible refine sd_if ?_))
local macro_rules | `(tactic| walk_at "g1") => `(tactic| (with_reducible refine sd_par3 ?_))
local macro_rules | `(tactic| walk_at "g1") => `(tactic| (with_reducible refine sd_par ?_))
local macro_rules | `(tactic| walk_at "g1") => `(tactic| (with_reducible refine sd_asg ?_))
local macro_rules | `(tactic| walk_at "g1") => `(tactic| (with_reducible refine sd_par4 ?_))
local macro_rules | `(tactic| walk_at "g1") => `(tactic| (with_reducible refine sd_seq ?_))
local macro_rules | `(tactic| walk_at "g") => `(tactic| repeat walk_at "g1")
local macro_rules | `(tactic| walk_at "w1") => `(tactic| refine Wk.any ?_)
local macro_rules | `(tactic| walk_at "w1") => `(tactic| refine Wk.same ?_)
local macro_rules | `(tactic| walk_at "w1") => `(tactic| exact Wk.nil)
local macro_rules | `(tactic| walk_at "w") => `(tactic| repeat walk_at "w1")

open Frac RowLaw
local macro_rules | `(tactic| walk_at "b1") => `(tactic| (with_reducible refine bix6 ?_))
local macro_rules | `(tactic| walk_at "b1") => `(tactic| (with_reducible refine bix7 ?_))
local macro_rules | `(tactic| walk_at "b1") => `(tactic| (with_reducible refine bix8 ?_))
local macro_rules | `(tactic| walk_at "b1") => `(tactic| (with_reducible refine six0 ?_))
local macro_rules | `(tactic| walk_at "b1") => `(tactic| (with_reducible refine six1 ?_))
local macro_rules | `(tactic| walk_at "b1") => `(tactic| (with_reducible refine six2 ?_))
local macro_rules | `(tactic| walk_at "b1") => `(tactic| (with_reducible refine six3 ?_))
local macro_rules | `(tactic| walk_at "b1") => `(tactic| (with_reducible refine cix0 ?_))
local macro_rules | `(tactic| walk_at "b1") => `(tactic| (with_reducible refine cix1 ?_))
local macro_rules | `(tactic| walk_at "b1") => `(tactic| (with_reducible refine cix2 ?_))
local macro_rules | `(tactic| walk_at "b1") => `(tactic| (with_reducible refine rix0 ?_))
local macro_rules | `(tactic| walk_at "b1") => `(tactic| (with_reducible refine rix1 ?_))
local macro_rules | `(tactic| walk_at "b1") => `(tactic| (with_reducible refine rix2 ?_))
local macro_rules | `(tactic| walk_at "b1") => `(tactic| (with_reducible refine rix3 ?_))
local macro_rules | `(tactic| walk_at "b1") => `(tactic| (with_reducible refine lix0 ?_))
local macro_rules | `(tactic| walk_at "b1") => `(tactic| (with_reducible refine lix1 ?_))
local macro_rules | `(tactic| walk_at "b1") => `(tactic| (with_reducible refine lix2 ?_))
local macro_rules | `(tactic| walk_at "b1") => `(tactic| (with_reducible refine lix3 ?_))
local macro_rules | `(tactic| walk_at "b1") => `(tactic| (with_reducible refine bix5 ?_))
local macro_rules | `(tactic| walk_at "b1") => `(tactic| (with_reducible refine bix4 ?_))
local macro_rules | `(tactic| walk_at "b1") => `(tactic| (with_reducible refine bix3 ?_))
local macro_rules | `(tactic| walk_at "b1") => `(tactic| (with_reducible refine bix2 ?_))
local macro_rules | `(tactic| walk_at "b1") => `(tactic| (with_reducible refine bix1 ?_))
local macro_rules | `(tactic| walk_at "b1") => `(tactic| (with_reducible refine bix0 ?_))
local macro_rules | `(tactic| walk_at "b1") => `(tactic| (with_reducible refine ixr2 ?_))
local macro_rules | `(tactic| walk_at "b1") => `(tactic| (with_reducible refine ixr1 ?_))
local macro_rules | `(tactic| walk_at "b1") => `(tactic| (with_reducible refine ixr0 ?_))
local macro_rules | `(tactic| walk_at "b1") => `(tactic| (with_reducible refine ixp1 ?_))
local macro_rules | `(tactic| walk_at "b1") => `(tactic| (with_reducible refine ixp0 ?_))
local macro_rules | `(tactic| walk_at "b1") => `(tactic| (with_reducible refine ix1 ?_))
local macro_rules | `(tactic| walk_at "b1") => `(tactic| (with_reducible refine ix0 ?_))
local macro_rules | `(tactic| walk_at "b1") => `(tactic| (with_reducible refine ixc1 ?_))
local macro_rules | `(tactic| walk_at "b1") => `(tactic| (with_reducible refine ixc0 ?_))
local macro_rules | `(tactic| walk_at "b1") => `(tactic| (with_reducible refine ixl1 ?_))
local macro_rules | `(tactic| walk_at "b1") => `(tactic| (with_reducible refine ixl0 ?_))
local macro_rules | `(tactic| walk_at "b1") => `(tactic| (with_reducible refine ite_zipM ?_))
local macro_rules | `(tactic| walk_at "b1") => `(tactic| (with_reducible refine itl_zipM ?_))
local macro_rules | `(tactic| walk_at "b1") => `(tactic| (with_reducible refine ec_cb cbSortD ?_))
local macro_rules | `(tactic| walk_at "b1") => `(tactic| (with_reducible refine ec_cb cbMax3 ?_))
local macro_rules | `(tactic| walk_at "b1") => `(tactic| (with_reducible refine Int3P.mk ?_))
local macro_rules | `(tactic| walk_at "b1") => `(tactic| (with_reducible refine ixcl0 ?_))
local macro_rules | `(tactic| walk_at "b1") => `(tactic| (with_reducible refine ixcl1 ?_))
local macro_rules | `(tactic| walk_at "b1") => `(tactic| (with_reducible refine itl_zipT ?_))
local macro_rules | `(tactic| walk_at "b1") => `(tactic| walk_at "g1")
local macro_rules | `(tactic| walk_at "b") => `(tactic| repeat walk_at "b1")
section
variable {P : Program} {w : World} {K : PySem.W.Frag} {mg : Str → Option Value} {base : Heap}
theorem ok__law_bag (T : Tp K mg)  : FnG P w K mg base CX0 1 T.f__law_bag T.fd__law_bag ["_law_script"] (spOf K sp_bag) := by
  refine fn_ok T.F__law_bag sc__law_bag (fun rs k h => ?_) fun cdv A outer s H E rs k hg hr h => ?_
  · obtain ⟨ns, rfl, _⟩ := h
    rfl
  · obtain ⟨ns, rfl, hl, hk⟩ := h
    refine ⟨_, (pss_one (ps_ret (pe_bagc (pe_lst (pa_cons pe_int (pa_cons pe_int (pa_cons pe_int (pa_cons (pe_frz (pe_lc (own := [("_law_cell", 1)]) rfl sc__law_bag.nd (qSeq K (pe_slice (qSl K) (pv 0) po_none (po_some pe_int))) (blkOk_by (N := ["_law_script", "_law_cell"]) (sc := defScope s__law_bag) (by decide +kernel)) (fun _ _ _ _ _ => (pg_name (i := 1) sc__law_bag.nd rfl (.inl rfl))) (fun _ _ _ _ _ => pts_nil) (fun _ _ _ _ _ => (pe_callB cAbs (by rfl) T.z_abs (by decide +kernel) (pa_cons (pv 1) pa_nil))))) pa_nil)))))))), ?_⟩
    show SD K _ _ [.lst (ns.map .int), .any]
    walk_at "g"
    refine lc_all (fun _ e => ∃ n : Int, e = .int n ∧ 0 ≤ n) ?_ ?_ ?_
    · exact Nat.le_trans (cut_len _ 63 (by decide)) (by decide)
    · intro i d hd
      obtain ⟨n, _, rfl⟩ := List.mem_map.mp (cut_mem hd)
      walk_at "g"
      split <;> omega
    · intro out ho hout
      obtain ⟨ms, rfl, hm⟩ := intsP out hout
      have := cut_len (ns.map PyData.int) 63 (by decide)
      walk_at "g"
      refine ⟨_, _, _, _, rfl, ?_, ⟨?_, hm⟩, rfl, hk⟩
      · exact ⟨by decide, by decide, by decide, by decide⟩
      · simpa [← ho] using this
theorem ok__law_take (T : Tp K mg)  : FnG P w K mg base CX0 1 T.f__law_take T.fd__law_take ["_law_bag_here", "_law_many"] (spOf K sp_take) := by
  refine fn_ok T.F__law_take sc__law_take (fun rs k h => ?_) fun cdv A outer s H E rs k hg hr h => ?_
  · obtain ⟨n, rfl, _⟩ := h
    rfl
  · obtain ⟨n, rfl, ⟨h1, h2⟩, hk⟩ := h
    refine ⟨_, (pss_cons (ps_if (pt_cmpR (qEqA K (hu64 hr)) (pe_ix (qIxA K (hu1 hr)) (pv 0) pe_int (fun _ _ => rfl)) pe_int (nomark _)) (pss_cons (ps_set (i := 2) sc__law_take.nd rfl (.inl rfl) (pe_ix (qIxA K (hu1 hr)) (pe_op (qAdd K) (pe_slice (qSl K) (pe_ix (qIxA K (hu1 hr)) (pv 0) pe_int (fun _ _ => rfl)) (po_some (pe_ix (qIxA K (hu1 hr)) (pv 0) pe_int (fun _ _ => rfl))) po_none) (pe_lst (pa_cons pe_int pa_nil))) pe_int (fun _ _ => rfl)))
        (pss_cons (ps_augS (pv 0) pe_int get_bag pe_int ip_add (qSet (hu1 hr)))
        (pss_cons (ps_if (pt_cmpR oGe (pv 2) (pe_op oPow pe_int pe_int) (nomark _)) (pss_one (ps_asg (pv 2) (pg_sub (pv 0) pe_int (qSet (hu1 hr)) (fun _ => rfl)))) pss_nil)
        (pss_cons (ps_set (i := 3) sc__law_take.nd rfl (.inl rfl) (pe_op (qAdd K) (pe_op (qAdd K) (pe_op (qMulC K) (pe_ix (qIxA K (hu1 hr)) (pv 0) pe_int (fun _ _ => rfl)) pe_int) (pe_op oMod (pe_callTy cInt (by rfl) T.z_int (by decide +kernel) (pa_cons (pv 2) pa_nil)) pe_int)) (pe_op (qMulC K) pe_int (pe_ix (qIxA K (hu1 hr)) (pv 0) pe_int (fun _ _ => rfl)))))
        (pss_one (ps_asg (pe_op oMod (pe_callTy cInt (by rfl) T.z_int (by decide +kernel) (pa_cons (pv 3) pa_nil)) pe_int) (pg_sub (pv 0) pe_int (qSet (hu1 hr)) (fun _ => rfl)))))))) pss_nil)
        (pss_cons (ps_if (pt_cmpR oGt (pe_ix (qIxA K (hu1 hr)) (pv 0) pe_int (fun _ _ => rfl)) pe_int (nomark _)) (pss_cons (ps_set (i := 4) sc__law_take.nd rfl (.inl rfl) (pe_op oMod (pe_callTy cInt (by rfl) T.z_int (by decide +kernel) (pa_cons (pe_ix (qIxA K (hu1 hr)) (pv 0) pe_int (fun _ _ => rfl)) pa_nil)) (pv 1)))
        (pss_cons (ps_asg (pe_op qFdvA (pe_callTy cInt (by rfl) T.z_int (by decide +kernel) (pa_cons (pe_ix (qIxA K (hu1 hr)) (pv 0) pe_int (fun _ _ => rfl)) pa_nil)) (pv 1)) (pg_sub (pv 0) pe_int (qSet (hu1 hr)) (fun _ => rfl)))
        (pss_one (ps_ret (pv 4))))) pss_nil)
        (pss_cons (ps_set (i := 5) sc__law_take.nd rfl (.inl rfl) (pe_op oMod (pe_callTy cInt (by rfl) T.z_int (by decide +kernel) (pa_cons (pe_op (qMulC K) (pe_op (qAdd K) (pe_ix (qIxA K (hu1 hr)) (pv 0) pe_int (fun _ _ => rfl)) pe_int) pe_int) pa_nil)) pe_int))
        (pss_cons (ps_set (i := 6) sc__law_take.nd rfl (.inl rfl) (pe_op oMod (pe_callTy cInt (by rfl) T.z_int (by decide +kernel) (pa_cons (pe_op (qMulC K) (pe_op oMod (pe_callTy cInt (by rfl) T.z_int (by decide +kernel) (pa_cons (pe_op (qMulC K) (pv 5) (pv 5)) pa_nil)) pe_int) pe_int) pa_nil)) pe_int))
        (pss_one (ps_ret (pe_op oMod (pe_callTy cInt (by rfl) T.z_int (by decide +kernel) (pa_cons (pe_op qFdvA (pv 6) pe_int) pa_nil)) (pv 1)))))))), ?_⟩
    show SD K _ _ [.bag, .dat (.int n), .any, .any, .any, .any, .any]
    refine sd_join [.bag, .dat (.int n), .any, .any, .any, .any, .any] ?_ ?_
    · walk_at "g"
      refine Br.dec (fun hz => ?_) fun hz => ?_
      · walk_at "g"
        rename_i ns hns b hb
        obtain ⟨ms, hms, hm⟩ := cut_ints ns (some b) none
        have hlen := cut_le (ns.map PyData.int) (some b) none
        rw [List.length_map] at hlen
        refine AddP.lst rfl rfl (Nat.le_trans (Nat.add_le_add_right (Nat.le_trans hlen hns.1) 1) (by decide)) ?_
        rw [hms]
        obtain ⟨c, hc, h0⟩ := cell_first ms hns.2 hm
        walk_at "g"
        refine ixq_lst rfl hc ?_
        walk_at "g"
        refine sd_augBag rfl ?_
        walk_at "g"
        intro a ha
        refine ⟨Int.add_nonneg ha (by decide), ?_⟩
        refine sd_join [.bag, .dat (.int n), .dat (.int c), .any, .any, .any, .any] ?_ ?_
        · walk_at "g"
          refine Br.dec (fun hc => ?_) fun hc => ?_
          · walk_at "g"
            refine gs_subBag rfl ?_
            walk_at "g"
            exact ⟨.inl ⟨rfl, h0⟩, by walk_at "w"⟩
          · walk_at "g"
            walk_at "w"
        · walk_at "g"
          refine gs_subBag rfl ?_
          walk_at "g"
          refine ⟨.inr (.inl ⟨rfl, by omega, by omega⟩), ?_⟩
          walk_at "w"
      · walk_at "g"
        walk_at "w"
    · walk_at "g"
      refine Br.dec (fun hz => ?_) fun hz => ?_
      · walk_at "g"
        refine gs_subBag rfl ?_
        walk_at "g"
        refine ⟨.inl ⟨rfl, Int.ediv_nonneg (by omega) (by omega)⟩, ?_⟩
        walk_at "g"
        exact ⟨rfl, hk _ (Int.emod_nonneg _ (by omega)) (Int.emod_lt_of_pos _ h1)⟩
      · walk_at "g"
        exact ⟨rfl, hk _ (Int.emod_nonneg _ (by omega)) (Int.emod_lt_of_pos _ h1)⟩
theorem ok__law_some (T : Tp K mg) (G__law_take : FnG P w K mg base CX0 1 T.f__law_take T.fd__law_take ["_law_bag_here", "_law_many"] (spOf K sp_take)) : FnG P w K mg base CX0 2 T.f__law_some T.fd__law_some ["_law_bag_here", "_law_things"] (spOf K sp_some) := by
  refine fn_ok T.F__law_some sc__law_some (fun rs k h => ?_) fun cdv A outer s H E rs k hg hr h => ?_
  · obtain ⟨x, ds, rfl, _⟩ := h
    rfl
  · obtain ⟨x, ds, rfl, hx, ⟨hl, hz⟩, hk⟩ := h
    refine ⟨_, (pss_one (ps_ret (pe_ix (qIxA K (hu1 hr)) (pv 1) (pe_g G__law_take hg (hr.mono (by decide)) T.m__law_take T.F__law_take.kp T.b__law_take .nil pass0 (pa_cons (pv 0) (pa_cons (pe_callB (qLen K) (by rfl) T.z_len (by decide +kernel) (pa_cons (pv 1) pa_nil)) pa_nil))) (fun _ _ => rfl)))), ?_⟩
    have fin : ∀ v : Int, 0 ≤ v → v < ds.length → ∃ d, atI ds v = some d ∧ k (.dat d) := fun v h0 h1 => by
      have hv : v.toNat < ds.length := by omega
      refine ⟨_, ?_, hk v.toNat _ (List.getElem?_eq_getElem hv)⟩
      rw [← atI_nat (List.getElem?_eq_getElem hv), Int.toNat_of_nonneg h0]
    rcases hx with rfl | rfl | rfl
    · show SD K _ _ [.bag, .lst ds]
      walk_at "g"
      rename_i v h0 h1
      obtain ⟨d, hd, kd⟩ := fin v h0 h1
      exact ixq_lst rfl hd ⟨rfl, kd⟩
    · show SD K _ _ [.bag, .dat (.tuple ds)]
      walk_at "g"
      rename_i v h0 h1
      obtain ⟨d, hd, kd⟩ := fin v h0 h1
      exact ixq_tup hd ⟨rfl, kd⟩
    · show SD K _ _ [.bag, .dat (.list ds)]
      walk_at "g"
      rename_i v h0 h1
      obtain ⟨d, hd, kd⟩ := fin v h0 h1
      exact ixq_lst rfl hd ⟨rfl, kd⟩
theorem ok__law_mixed (T : Tp K mg) (G__law_take : FnG P w K mg base CX0 1 T.f__law_take T.fd__law_take ["_law_bag_here", "_law_many"] (spOf K sp_take)) : FnG P w K mg base CX0 2 T.f__law_mixed T.fd__law_mixed ["_law_bag_here", "_law_things"] (spOf K sp_mixed) := by
  refine fn_ok T.F__law_mixed sc__law_mixed (fun rs k h => ?_) fun cdv A outer s H E rs k hg hr h => ?_
  · obtain ⟨x, ds, rfl, _⟩ := h
    rfl
  · obtain ⟨x, ds, rfl, hx, hl, hk⟩ := h
    refine ⟨_, (pss_cons (ps_set (i := 2) sc__law_mixed.nd rfl (.inl rfl) (pe_lst pa_nil))
        (pss_cons (ps_for PassesOwn.never rfl (qSeq K (pv 1)) (pg_name (i := 3) sc__law_mixed.nd rfl (.inl rfl)) (pss_one (ps_expr (kBm K (pe_bm PySem.F.plainAttrs_list PySem.F.slot_list_insert PySem.F.type_list_insert mInsert (pv 2) (pa_cons (pe_frz (pe_g G__law_take hg (hr.mono (by decide)) T.m__law_take T.F__law_take.kp T.b__law_take .nil pass0 (pa_cons (pv 0) (pa_cons (pe_op (qAdd K) (pe_callB (qLen K) (by rfl) T.z_len (by decide +kernel) (pa_cons (pv 2) pa_nil)) pe_int) pa_nil)))) (pa_cons (pv 3) pa_nil)))))))
        (pss_one (ps_ret (pv 2))))), ?_⟩
    obtain ⟨y, hs, hy, hst⟩ := seq_slot3 hx
    show SD K _ _ [.bag, argSlot x, .any, .any]
    generalize argSlot x = s at *
    walk_at "g"
    refine ⟨ds, hst, ?_⟩
    refine forp_ds ds (fun t (es : List PyData) => es.Perm (ds.take t)) (fun es => [.bag, s, .own es, .any]) ⟨[], by simp, by walk_at "w"⟩ ?_ ?_
    · rintro t d es hd hI
      have ht := (List.getElem?_eq_some_iff.mp hd).1
      have el : es.length = t := by
        have := hI.length_eq
        rw [List.length_take] at this
        omega
      have e1 : ds.take (t + 1) = ds.take t ++ [d] := by rw [List.take_add_one, hd]; rfl
      walk_at "g"
      refine sd_insert rfl (by omega) ?_
      walk_at "g"
      rename_i v v0 v1
      refine ⟨v, _, rfl, rfl, v0, by omega, es.take v.toNat ++ [d] ++ es.drop v.toNat, ?_, by walk_at "w"⟩
      rw [e1]
      have p1 : (es.take v.toNat ++ [d] ++ es.drop v.toNat).Perm (d :: (es.take v.toNat ++ es.drop v.toNat)) := by
        rw [List.append_assoc]
        exact List.perm_middle
      rw [List.take_append_drop] at p1
      exact p1.trans ((List.Perm.cons d hI).trans (List.perm_append_singleton d _).symm)
    · rintro es hI
      rw [List.take_length] at hI
      walk_at "g"
      exact ⟨rfl, hk es hI⟩
theorem ok__law_alike (T : Tp K mg)  : FnG P w K mg base CX0 1 T.f__law_alike T.fd__law_alike ["_law_found", "_law_due"] (spOf K sp_alike) := by
  refine fn_ok T.F__law_alike sc__law_alike (fun rs k h => ?_) fun cdv A outer s H E rs k hg hr h => ?_
  · obtain ⟨x, y, ds, rfl, _⟩ := h
    rfl
  · obtain ⟨x, y, d, rfl, hx, hy, ht, hk⟩ := h
    refine ⟨_, (pss_one (ps_ret (pe_and (pe_cmpR (qEqA K (hu64 hr)) (pv 0) (pv 1) (nomark _)) (pe_one (pe_cmpR (qEqA K (hu64 hr)) (pe_callB (qRepr K hg (hu64 hr)) (by rfl) T.z_repr (by decide +kernel) (pa_cons (pv 0) pa_nil)) (pe_callB (qRepr K hg (hu64 hr)) (by rfl) T.z_repr (by decide +kernel) (pa_cons (pv 1) pa_nil)) (nomark _)))))), ?_⟩
    have he := eqv_self ht
    cases hx <;> cases hy
    all_goals
      dsimp only [entry, List.map, argSlot]
      walk_at "g"
      refine eqq_g rfl rfl ht.shaped ht.shaped ?_
      walk_at "g"
      rw [he]
      walk_at "g"
      refine .mk rfl ht ?_
      walk_at "g"
      refine .mk rfl ht ?_
      walk_at "g"
      exact ⟨rfl, by rw [decide_eq_true rfl]; exact hk⟩
theorem ok__law_dot (T : Tp K mg) (G__law_take : FnG P w K mg base CX0 1 T.f__law_take T.fd__law_take ["_law_bag_here", "_law_many"] (spOf K sp_take)) : FnG P w K mg base CX0 2 T.f__law_dot T.fd__law_dot ["_law_bag_here", "_law_wide"] (spOf K sp_dotF) := by
  refine fn_ok T.F__law_dot sc__law_dot (fun rs k h => ?_) fun cdv A outer s H E rs k hg hr h => ?_
  · obtain ⟨x, rfl, _⟩ := h
    rfl
  · obtain ⟨x, rfl, ⟨h1, h2⟩, hk⟩ := h
    refine ⟨_, (pss_one (ps_ret (pe_tup (pa_cons (pe_op oSub (pe_g G__law_take hg (hr.mono (by decide)) T.m__law_take T.F__law_take.kp T.b__law_take .nil pass0 (pa_cons (pv 0) (pa_cons (pe_op (qAdd K) (pe_op (qMulC K) pe_int (pv 1)) pe_int) pa_nil))) (pv 1)) (pa_cons (pe_op oSub (pe_g G__law_take hg (hr.mono (by decide)) T.m__law_take T.F__law_take.kp T.b__law_take .nil pass0 (pa_cons (pv 0) (pa_cons (pe_op (qAdd K) (pe_op (qMulC K) pe_int (pv 1)) pe_int) pa_nil))) (pv 1)) pa_nil))))), ?_⟩
    show SD K _ _ [.bag, .dat (.int x)]
    walk_at "b"
    rename_i a a0 a1 b b0 b1
    exact ⟨rfl, hk (_, _) ⟨⟨by dsimp only; omega, by dsimp only; omega⟩, by dsimp only; omega, by dsimp only; omega⟩⟩
theorem ok__law_shades (T : Tp K mg) (G__law_some : FnG P w K mg base CX0 2 T.f__law_some T.fd__law_some ["_law_bag_here", "_law_things"] (spOf K sp_some)) : FnG P w K mg base CX0 3 T.f__law_shades T.fd__law_shades ["_law_bag_here"] (spOf K sp_shadesF) := by
  refine fn_ok T.F__law_shades sc__law_shades (fun rs k h => ?_) fun cdv A outer s H E rs k hg hr h => ?_
  · obtain ⟨rfl, _⟩ := h
    rfl
  · obtain ⟨rfl, hk⟩ := h
    refine ⟨_, (pss_cons (ps_set (i := 1) sc__law_shades.nd rfl (.inr rfl) (pe_lst (pa_cons pe_str (pa_cons pe_str (pa_cons pe_str (pa_cons pe_str (pa_cons (pe_frz (pe_op (qMulC K) pe_str pe_int)) (pa_cons pe_str pa_nil))))))))
        (pss_cons (ps_set (i := 2) sc__law_shades.nd rfl (.inl rfl) (pe_callTy (qTuple K) (by rfl) T.z_tuple (by decide +kernel) (pa_cons (pe_lc (own := [("_law_turn", 3)]) rfl sc__law_shades.nd (pi_range1 (by rfl) T.z_range (pa_cons (pe_g G__law_some hg (hr.mono (by decide)) T.m__law_some T.F__law_some.kp T.b__law_some .nil pass0 (pa_cons (pv 0) (pa_cons (pe_lst (pa_cons pe_int (pa_cons pe_int (pa_cons pe_int (pa_cons pe_int (pa_cons pe_int pa_nil)))))) pa_nil))) pa_nil)) (blkOk_by (N := ["_law_bag_here", "_law_names", "_law_some_here", "_law_turn"]) (sc := defScope s__law_shades) (by decide +kernel)) (fun _ _ _ _ _ => (pg_name (i := 3) sc__law_shades.nd rfl (.inl rfl))) (fun _ _ _ _ _ => pts_nil) (fun _ _ _ _ _ => (pe_frz (pe_g G__law_some hg (hr.mono (by decide)) T.m__law_some T.F__law_some.kp T.b__law_some .nil pass0 (pa_cons (pv 0) (pa_cons (pv 1) pa_nil)))))) pa_nil)))
        (pss_one (ps_ret (pe_op (qMulC K) (pv 2) (pe_g G__law_some hg (hr.mono (by decide)) T.m__law_some T.F__law_some.kp T.b__law_some .nil pass0 (pa_cons (pv 0) (pa_cons (pe_lst (pa_cons pe_int (pa_cons pe_int (pa_cons pe_int (pa_cons pe_int pa_nil))))) pa_nil)))))))), ?_⟩
    show SD K _ _ [.bag, .any, .any, .any]
    refine sd_mid (fun δ' => Wk δ' [.bag, .own namesD, .any, .any]) ?_ ?_
    · walk_at "b"
      refine MulT.s (by decide) (by decide) (by decide +kernel) (by decide +kernel) ?_
      walk_at "b"
      show Wk _ [_, .own namesD, _, _]
      walk_at "w"
    intro δ' w
    refine sd_wk w ?_
    clear w
    walk_at "b"
    refine some_l (fun d => ∃ n : Int, d = .int n ∧ 1 ≤ n ∧ n ≤ 4) (fun d hd => ?_) ⟨by decide, by decide⟩ fun d hd => ?_
    · simp only [List.mem_cons, List.not_mem_nil, or_false] at hd
      rcases hd with rfl | rfl | rfl | rfl | rfl <;> exact ⟨_, rfl, by decide, by decide⟩
    obtain ⟨n, rfl, n0⟩ := hd
    walk_at "b"
    refine ⟨by omega, by omega, ?_⟩
    refine lc_all (fun _ e => e ∈ namesD) (by rw [rgD_len]; omega) (fun i d hd => ?_) fun out ho hp => ?_
    · walk_at "b"
      refine ⟨_, _, rfl, .inl rfl, ⟨by decide, by decide⟩, fun j e he => ?_⟩
      walk_at "b"
      exact List.mem_of_getElem? he
    · rw [rgD_len] at ho
      walk_at "b"
      refine some_l (fun d => ∃ n : Int, d = .int n ∧ 0 < n ∧ n ≤ 3) (fun d hd => ?_) ⟨by decide, by decide⟩ fun d hd => ?_
      · simp only [List.mem_cons, List.not_mem_nil, or_false] at hd
        rcases hd with rfl | rfl | rfl | rfl <;> exact ⟨_, rfl, by decide, by decide⟩
      obtain ⟨m, rfl, m0, m1⟩ := hd
      refine mult_tup m0 (by omega) (by omega) ?_
      exact ⟨rfl, hk _ (shD_rep (by omega) hp n0 m0 m1)⟩
theorem ok__law_shape (T : Tp K mg)  : FnG P w K mg base CX0 1 T.f__law_shape T.fd__law_shape ["_law_points"] (spOf K sp_shape) := by
  refine fn_ok T.F__law_shape sc__law_shape (fun rs k h => ?_) fun cdv A outer s H E rs k hg hr h => ?_
  · obtain ⟨cs, rfl, _⟩ := h
    rfl
  · obtain ⟨cs, rfl, hl, hc, hk⟩ := h
    have h2 : ∀ c ∈ cs, c.length = 2 := fun c h => by
      obtain ⟨x, z, rfl, _⟩ := hc c h
      rfl
    refine ⟨_, (pss_one (ps_ret (pe_callTy (qTuple K) (by rfl) T.z_tuple (by decide +kernel) (pa_cons (pe_callB (qSortN K P w (hu64 hr)) (by rfl) T.z_sorted (by decide +kernel) (pa_cons (pe_callTy (qSetT K P w (hu64 hr)) (by rfl) T.z_set (by decide +kernel) (pa_cons (pv 0) pa_nil)) pa_nil)) pa_nil)))), ?_⟩
    show SD K _ _ [.lst (cs.map tupD)]
    walk_at "b"
    refine ec_sortSetN ?_
    walk_at "b"
    refine ⟨hl, h2, fun ms hn hm hl2 hp => ?_⟩
    walk_at "b"
    exact ⟨rfl, hk ms (fun m h => (hm m).mp h) (nodup_leL hn fun m h => (hm m).mp h) (lt2_of hn hp fun m h => h2 m ((hm m).mp h))⟩
theorem ok__law_close_picture (T : Tp K mg) (G__law_take : FnG P w K mg base CX0 1 T.f__law_take T.fd__law_take ["_law_bag_here", "_law_many"] (spOf K sp_take)) (G__law_some : FnG P w K mg base CX0 2 T.f__law_some T.fd__law_some ["_law_bag_here", "_law_things"] (spOf K sp_some)) (G__law_shades : FnG P w K mg base CX0 3 T.f__law_shades T.fd__law_shades ["_law_bag_here"] (spOf K sp_shadesF)) (G__law_shape : FnG P w K mg base CX0 1 T.f__law_shape T.fd__law_shape ["_law_points"] (spOf K sp_shape)) : FnG P w K mg base CX0 4 T.f__law_close_picture T.fd__law_close_picture ["_law_bag_here"] (spOf K sp_picF) := by
  refine fn_ok T.F__law_close_picture sc__law_close_picture (fun rs k h => ?_) fun cdv A outer s H E rs k hg hr h => ?_
  · obtain ⟨rfl, _⟩ := h
    rfl
  · obtain ⟨rfl, hk⟩ := h
    refine ⟨_, (pss_cons (ps_set (i := 1) sc__law_close_picture.nd rfl (.inr rfl) (pe_g G__law_some hg (hr.mono (by decide)) T.m__law_some T.F__law_some.kp T.b__law_some .nil pass0 (pa_cons (pv 0) (pa_cons (pe_lst (pa_cons pe_int (pa_cons pe_int (pa_cons pe_int (pa_cons pe_int pa_nil))))) pa_nil))))
        (pss_cons (ps_setLc (i := 2) (own := [("_law_turn", 4)]) rfl sc__law_close_picture.nd rfl rfl (sw_true rfl rfl rfl (by decide +kernel)) (pi_range1 (by rfl) T.z_range (pa_cons (pe_g G__law_some hg (hr.mono (by decide)) T.m__law_some T.F__law_some.kp T.b__law_some .nil pass0 (pa_cons (pv 0) (pa_cons (pe_lst (pa_cons pe_int (pa_cons pe_int (pa_cons pe_int (pa_cons pe_int (pa_cons pe_int pa_nil)))))) pa_nil))) pa_nil)) (blkOk_by (N := ["_law_bag_here", "_law_wide", "_law_dots", "_law_lamps", "_law_turn", "_law_x", "_law_z"]) (sc := defScope s__law_close_picture) (by decide +kernel)) (fun _ _ _ _ _ => (pg_name (i := 4) sc__law_close_picture.nd rfl (.inl rfl))) (fun _ _ _ _ _ => pts_nil) (fun _ _ _ _ _ => (pe_tup (pa_cons (pe_frz (pe_g G__law_take hg (hr.mono (by decide)) T.m__law_take T.F__law_take.kp T.b__law_take .nil pass0 (pa_cons (pv 0) (pa_cons (pv 1) pa_nil)))) (pa_cons (pe_frz (pe_g G__law_take hg (hr.mono (by decide)) T.m__law_take T.F__law_take.kp T.b__law_take .nil pass0 (pa_cons (pv 0) (pa_cons pe_int pa_nil)))) pa_nil)))))
        (pss_cons (ps_setLc (i := 3) (own := [("_law_x", 5), ("_law_z", 6)]) rfl sc__law_close_picture.nd rfl rfl (sw_true rfl rfl rfl (by decide +kernel)) (qSeq K (pe_g G__law_shape hg (hr.mono (by decide)) T.m__law_shape T.F__law_shape.kp T.b__law_shape .nil pass0 (pa_cons (pv 2) pa_nil))) (blkOk_by (N := ["_law_bag_here", "_law_wide", "_law_dots", "_law_lamps", "_law_turn", "_law_x", "_law_z"]) (sc := defScope s__law_close_picture) (by decide +kernel)) (fun _ _ _ _ _ => (qTup K 2 (pgs_cons (pg_name (i := 5) sc__law_close_picture.nd rfl (.inl rfl)) (pgs_cons (pg_name (i := 6) sc__law_close_picture.nd rfl (.inl rfl)) pgs_nil)))) (fun _ _ _ _ _ => pts_nil) (fun _ _ _ _ _ => (pe_tup (pa_cons (pe_op oSub (pv 5) (pe_op qFdvA (pv 1) pe_int)) (pa_cons (pv 6) (pa_cons (pe_frz (pe_g G__law_shades hg (hr.mono (by decide)) T.m__law_shades T.F__law_shades.kp T.b__law_shades .nil pass0 (pa_cons (pv 0) pa_nil))) (pa_cons (pe_frz (pe_g G__law_some hg (hr.mono (by decide)) T.m__law_some T.F__law_some.kp T.b__law_some .nil pass0 (pa_cons (pv 0) (pa_cons (pe_lst (pa_cons pe_int (pa_cons pe_int (pa_cons pe_int (pa_cons pe_int (pa_cons pe_int pa_nil)))))) pa_nil)))) pa_nil)))))))
        (pss_one (ps_ret (pe_callTy (qTuple K) (by rfl) T.z_tuple (by decide +kernel) (pa_cons (pv 3) pa_nil))))))), ?_⟩
    show SD K _ _ [.bag, .any, .any, .any, .any, .any, .any]
    refine sd_mid (fun δ' => ∃ wd : Int, (0 < wd ∧ wd ≤ 40) ∧ Wk δ' [.bag, .dat (.int wd), .any, .any, .any, .any, .any]) ?_ ?_
    · walk_at "b"
      refine some_l (fun d => ∃ n : Int, d = .int n ∧ 0 < n ∧ n ≤ 40) (fun d hd => ?_) ⟨by decide, by decide⟩ fun d hd => ?_
      · simp only [List.mem_cons, List.not_mem_nil, or_false] at hd
        rcases hd with rfl | rfl | rfl | rfl <;> exact ⟨_, rfl, by decide, by decide⟩
      obtain ⟨m, rfl, m0, m1⟩ := hd
      walk_at "b"
      exact ⟨m, ⟨m0, m1⟩, by walk_at "w"⟩
    rintro δ' ⟨wd, ⟨w0, w1⟩, w⟩
    refine sd_wk w ?_
    clear w
    refine sd_mid (fun δ' => ∃ cs : List (List Int), cs.length ≤ 14 ∧ (∀ c ∈ cs, Pt c) ∧ Wk δ' [.bag, .dat (.int wd), .own (cs.map tupD), .any, .any, .any, .any]) ?_ ?_
    · walk_at "b"
      refine some_l (fun d => ∃ n : Int, d = .int n ∧ 0 ≤ n ∧ n ≤ 14) (fun d hd => ?_) ⟨by decide, by decide⟩ fun d hd => ?_
      · simp only [List.mem_cons, List.not_mem_nil, or_false] at hd
        rcases hd with rfl | rfl | rfl | rfl | rfl <;> exact ⟨_, rfl, by decide, by decide⟩
      obtain ⟨m, rfl, m0, m1⟩ := hd
      walk_at "b"
      refine ⟨by omega, by omega, ?_⟩
      refine lc_all (fun _ e => ∃ c, e = tupD c ∧ Pt c) (by rw [rgD_len]; omega) (fun i d hd => ?_) fun out ho hp => ?_
      · walk_at "b"
        rename_i a a0 a1 b b0 b1
        exact ⟨[a, b], rfl, a, b, rfl, ⟨a0, by omega⟩, ⟨b0, by omega⟩⟩
      · obtain ⟨cs, rfl, hcs⟩ := mapsP tupD out hp
        rw [rgD_len, List.length_map] at ho
        walk_at "b"
        refine ⟨cs, by omega, hcs, by walk_at "w"⟩
    rintro δ' ⟨cs, c0, c1, w⟩
    refine sd_wk w ?_
    clear w
    refine sd_mid (fun δ' => ∃ ps : List Lamp, ps.length ≤ 14 ∧ Asc ps ∧ (∀ l ∈ ps, LpD l) ∧ Wk δ' [.bag, .any, .any, .own (ps.map lampD), .any, .any, .any]) ?_ ?_
    · walk_at "b"
      refine ⟨by omega, c1, fun ms m1 m2 m3 => ?_⟩
      walk_at "b"
      refine lc_all (fun i e => ∃ m, ms[i]? = some m ∧ ∃ l : Lamp, e = lampD l ∧ l.x = m.getD 0 0 - wd / 2 ∧ l.z = m.getD 1 0 ∧ ShD l.sh ∧ 0 ≤ l.wt ∧ l.wt ≤ 3) (by rw [List.length_map]; omega) (fun i d hd => ?_) fun out ho hp => ?_
      · rw [List.getElem?_map] at hd
        obtain ⟨m, hm, rfl⟩ := Option.map_eq_some_iff.mp hd
        obtain ⟨x, z, rfl, hx, hz⟩ := c1 m (m1 m (List.mem_of_getElem? hm))
        unfold tupD
        dsimp only [List.map]
        walk_at "b"
        refine ⟨rfl, fun sh hsh => ?_⟩
        walk_at "b"
        refine some_l (fun d => ∃ n : Int, d = .int n ∧ 0 ≤ n ∧ n ≤ 3) (fun d hd => ?_) ⟨by decide, by decide⟩ fun d hd => ?_
        · simp only [List.mem_cons, List.not_mem_nil, or_false] at hd
          rcases hd with rfl | rfl | rfl | rfl | rfl <;> exact ⟨_, rfl, by decide, by decide⟩
        obtain ⟨n, rfl, n0, n1⟩ := hd
        walk_at "b"
        exact ⟨[x, z], hm, ⟨x - wd / 2, z, sh, n⟩, rfl, rfl, rfl, hsh, n0, n1⟩
      · rw [List.length_map] at ho
        obtain ⟨ps, rfl, p1⟩ := lamps_of (wd / 2) ms out ho fun i m e h1 h2 => by
          obtain ⟨m', h3, l, h4, h5, h6, _⟩ := hp i e h2
          rw [h1] at h3
          cases h3
          exact ⟨l, h4, h5, h6⟩
        have psh : ∀ l ∈ ps, ShD l.sh ∧ 0 ≤ l.wt ∧ l.wt ≤ 3 := fun l hl => by
          obtain ⟨i, hi, e⟩ := List.mem_iff_getElem.mp hl
          obtain ⟨_, _, l', h4, _, _, h7⟩ := hp i (lampD l) (by rw [List.getElem?_map, List.getElem?_eq_getElem hi, e]; rfl)
          rw [lampD_inj h4]
          exact h7
        rw [List.length_map] at ho
        walk_at "b"
        refine ⟨ps, by omega, ?_, fun l hl => ?_, by walk_at "w"⟩
        · have : (ps.map lcol).Pairwise ltC := by
            rw [p1, List.pairwise_map]
            refine m3.imp fun {a b} h => ?_
            unfold lt2 fst2 snd2 at h
            unfold ltC
            dsimp only
            omega
          exact List.pairwise_map.mp this
        · have hc : lcol l ∈ ps.map lcol := List.mem_map_of_mem hl
          rw [p1] at hc
          obtain ⟨a, ha, ea⟩ := List.mem_map.mp hc
          obtain ⟨x, z, rfl, q1, q2⟩ := c1 a (m1 a ha)
          have e1 : x - wd / 2 = l.x := congrArg (·.1) ea
          have e2 : z = l.z := congrArg (·.2) ea
          exact ⟨⟨⟨by omega, by omega⟩, by omega, by omega⟩, psh l hl⟩
    rintro δ' ⟨ps, p0, p1, p2, w⟩
    refine sd_wk w ?_
    clear w
    walk_at "b"
    exact ⟨rfl, hk ps p0 p1 p2⟩
theorem ok__law_rows (T : Tp K mg)  : FnG P w K mg base CX0 1 T.f__law_rows T.fd__law_rows ["_law_picture", "_law_spacing"] (spOf K sp_lrowsF) := by
  refine fn_ok T.F__law_rows sc__law_rows (fun rs k h => ?_) fun cdv A outer s H E rs k hg hr h => ?_
  · obtain ⟨ps, s, rfl, _⟩ := h
    rfl
  · obtain ⟨ps, s, rfl, hl, hw, hk⟩ := h
    refine ⟨_, (pss_cons (ps_set (i := 2) sc__law_rows.nd rfl (.inr rfl) (pe_lst pa_nil))
        (pss_cons (ps_for PassesOwn.never rfl (qEnum K T.z_enumerate (pa_cons (pv 0) pa_nil)) (qTup K 2 (pgs_cons (pg_name (i := 3) sc__law_rows.nd rfl (.inl rfl)) (pgs_cons (pg_name (i := 4) sc__law_rows.nd rfl (.inr rfl)) pgs_nil))) (pss_cons (ps_set (i := 5) sc__law_rows.nd rfl (.inr rfl) (pe_lc (own := [("_law_k", 6)]) rfl sc__law_rows.nd (pi_range1 (by rfl) T.z_range (pa_cons (pv 3) pa_nil)) (blkOk_by (N := ["_law_picture", "_law_spacing", "_law_found", "_law_at", "_law_lamp", "_law_barred", "_law_k", "_law_row"]) (sc := defScope s__law_rows) (by decide +kernel)) (fun _ _ _ _ _ => (pg_name (i := 6) sc__law_rows.nd rfl (.inl rfl))) (fun _ _ _ _ _ => (pts_one (pt_cmpR (qLt K (hu0 hr)) (pe_op oSub (pe_ix (qIxA K (hu1 hr)) (pv 4) pe_int (fun _ _ => rfl)) (pe_ix (qIxA K (hu1 hr)) (pe_ix (qIxA K (hu1 hr)) (pv 0) (pv 6) (fun _ _ => rfl)) pe_int (fun _ _ => rfl))) (pv 1) (nomark _)))) (fun _ _ _ _ _ => (pe_ix (qIxA K (hu1 hr)) (pv 2) (pv 6) (fun _ _ => rfl)))))
        (pss_one (ps_expr (kBm K (pe_bm PySem.F.plainAttrs_list PySem.F.slot_list_append PySem.F.type_list_append mt_append (pv 2) (pa_cons (pe_ix (qIxA K (hu1 hr)) (pe_lc (own := [("_law_row", 7)]) rfl sc__law_rows.nd (pi_range1 (by rfl) T.z_range (pa_cons (pe_op (qAdd K) (pv 3) pe_int) pa_nil)) (blkOk_by (N := ["_law_picture", "_law_spacing", "_law_found", "_law_at", "_law_lamp", "_law_barred", "_law_k", "_law_row"]) (sc := defScope s__law_rows) (by decide +kernel)) (fun _ _ _ _ _ => (pg_name (i := 7) sc__law_rows.nd rfl (.inl rfl))) (fun _ _ _ _ _ => (pts_one (pt_cmpR (qNotInA K (hu65 hr)) (pv 7) (pv 5) (by with_unfolding_all rfl)))) (fun _ _ _ _ _ => (pv 7))) pe_int (fun _ _ => rfl)) pa_nil)))))))
        (pss_one (ps_ret (pe_callTy (qTuple K) (by rfl) T.z_tuple (by decide +kernel) (pa_cons (pv 2) pa_nil)))))), ?_⟩
    show SD K _ _ [.dat (.tuple (ps.map lampD)), .dat (.int s), .any, .any, .any, .any, .any, .any]
    walk_at "b"
    refine ⟨_, _, rfl, rfl, ?_⟩
    unfold enumD
    rw [List.length_map]
    refine forp_inv (List.range ps.length) _ (fun pre (fs : List Nat) => RS s ((ps.take pre.length).map (·.x)) fs) (fun fs => [.dat (.tuple (ps.map lampD)), .dat (.int s), .own (fs.map natD), .any, .any, .any, .any, .any]) ⟨[], ⟨[], rfl, ri_nil⟩, by walk_at "w"⟩ ?_ ?_
    · intro pre i post fs hp hrs
      have hlt : pre.length < ps.length := by
        have := congrArg List.length hp
        simp at this
        omega
      have hpi : i = pre.length := by
        have : (List.range ps.length)[pre.length]? = some i := by rw [hp]; simp
        rw [List.getElem?_range hlt] at this
        exact (Option.some.inj this).symm
      subst hpi
      generalize hn : pre.length = n at *
      obtain ⟨l, hl1⟩ : ∃ l, ps[n]? = some l := ⟨ps[n], List.getElem?_eq_getElem hlt⟩
      have e0 : (ps.map lampD).getD n .none = lampD l := by rw [List.getD_eq_getElem?_getD, List.getElem?_map, hl1]; rfl
      rw [e0]
      have xs_get : ∀ k : Nat, k < n → ∃ m : Lamp, ps[k]? = some m ∧ ((ps.take n).map (·.x)).getD k 0 = m.x := by
        intro k hk
        refine ⟨ps[k], List.getElem?_eq_getElem (by omega), ?_⟩
        rw [List.getD_eq_getElem?_getD, List.getElem?_map, List.getElem?_take_of_lt hk, List.getElem?_eq_getElem (by omega)]
        rfl
      have xlen : ((ps.take n).map (·.x)).length = n := by rw [List.length_map, List.length_take]; omega
      have xnext : (ps.take (n + 1)).map (·.x) = (ps.take n).map (·.x) ++ [l.x] := by rw [List.take_add_one, hl1, List.map_append]; rfl
      have hasc : ∀ k : Nat, k < ((ps.take n).map (·.x)).length → ((ps.take n).map (·.x)).getD k 0 ≤ l.x := by
        intro k hk
        rw [xlen] at hk
        obtain ⟨m, hm, em⟩ := xs_get k hk
        rw [em]
        have h1 : (ps.map (·.x))[k]? = some m.x := by rw [List.getElem?_map, hm]; rfl
        have h2 : (ps.map (·.x))[n]? = some l.x := by rw [List.getElem?_map, hl1]; rfl
        obtain ⟨a1, a2⟩ := List.getElem?_eq_some_iff.mp h1
        obtain ⟨b1, b2⟩ := List.getElem?_eq_some_iff.mp h2
        have := List.pairwise_iff_getElem.mp hw k n a1 b1 hk
        rw [a2, b2] at this
        exact this
      obtain ⟨r, hr1, hr2⟩ := rs_step l.x hasc hrs
      rw [xlen] at hr2
      have hfl : fs.length = n := by
        obtain ⟨_, _, z⟩ := hrs
        rw [z.len, xlen]
      obtain ⟨lx, lz, lsh, lw⟩ := l
      dsimp only at hr1 hr2 xnext
      show GS K _ (.dat (.tuple [.int n, .tuple [.int lx, .int lz, lsh, .int lw]])) _ _
      generalize hX : (ps.take n).map (·.x) = X at *
      walk_at "b"
      refine ⟨by omega, by omega, ?_⟩
      rw [Int.toNat_natCast]
      have snoc : ∀ (q : Nat → Bool) (j : Nat), (List.range (j + 1)).filter q = (List.range j).filter q ++ if q j = true then [j] else [] := fun q j => by
        rw [List.range_succ, List.filter_append]
        by_cases h : q j = true
        · rw [if_pos h]
          simp only [List.filter_cons, List.filter_nil, h, if_true]
        · rw [if_neg h]
          simp only [List.filter_cons, List.filter_nil, h]
          rfl
      refine ⟨fun j acc => acc = ((List.range j).filter fun k => decide (lx - X.getD k 0 < s)).map (fun k => natD (fs.getD k 0)), rfl, by rw [rgD_len]; omega, ?_, ?_⟩
      · intro j d acc hd ha
        subst ha
        have hj : j < n := by
          have := (List.getElem?_eq_some_iff.mp hd).1
          rw [rgD_len] at this
          exact this
        rw [rgD_get hj, Int.zero_add] at hd
        cases hd
        obtain ⟨⟨mx, mz, msh, mw⟩, hm, em⟩ := xs_get j hj
        have aj : atI (ps.map lampD) ((j : Nat) : Int) = some (.tuple [.int mx, .int mz, msh, .int mw]) := atI_nat (by rw [List.getElem?_map, hm]; rfl)
        have af : atI (fs.map natD) ((j : Nat) : Int) = some (natD (fs.getD j 0)) := atI_nat (by rw [List.getElem?_map, List.getD_eq_getElem?_getD, List.getElem?_eq_getElem (by omega)]; rfl)
        walk_at "b"
        refine ixq_tup aj ?_
        walk_at "b"
        refine Br.dec (fun hc => ?_) fun hc => ?_
        · walk_at "b"
          refine ixq_lst rfl af ?_
          refine ⟨_, rfl, ?_⟩
          show _ = List.map _ _
          rw [snoc, if_pos (by rw [em]; exact decide_eq_true hc), List.map_append]
          rfl
        · show _ = List.map _ _
          rw [snoc, if_neg (by rw [em, decide_eq_false hc]; exact Bool.false_ne_true), List.append_nil]
      · intro out ho
        rw [rgD_len] at ho
        walk_at "b"
        have hfl2 : (fs.map natD).length < 1000000 := by rw [List.length_map]; omega
        have so : SeqAt.shaped (.list out) = true := by
          rw [ho]
          exact sh_ints (fun k => ((fs.getD k 0 : Nat) : Int)) _
        have hpr := hr2 (fun j => !(out.any fun z => PyData.eqv z (.int (j : Nat)))) fun j => by
          rw [Bool.not_eq_true', Bool.eq_false_iff, ne_eq, ho, List.any_map, List.any_eq_true]
          refine not_congr ⟨?_, ?_⟩
          · rintro ⟨k, hk, he⟩
            obtain ⟨h1, h2⟩ := List.mem_filter.mp hk
            refine ⟨k, List.mem_range.mp h1, ?_, of_decide_eq_true h2⟩
            have := of_decide_eq_true ((eqv_int _ _).symm.trans he)
            omega
          · rintro ⟨k, h1, h2, h3⟩
            refine ⟨k, List.mem_filter.mpr ⟨List.mem_range.mpr h1, decide_eq_true h3⟩, ?_⟩
            show PyData.eqv (.int _) (.int _) = true
            rw [eqv_int, h2]
            exact decide_eq_true rfl
        refine sd_append rfl hfl2 ?_
        walk_at "b"
        refine ⟨by omega, by omega, ?_⟩
        rw [show ((n : Int) + 1).toNat = n + 1 by omega]
        refine ⟨fun j acc => acc = ((List.range j).filter fun j => !(out.any fun z => PyData.eqv z (.int (j : Nat)))).map natD, rfl, by rw [rgD_len]; omega, ?_, ?_⟩
        · intro j d acc hd ha
          subst ha
          have hj : j < n + 1 := by
            have := (List.getElem?_eq_some_iff.mp hd).1
            rw [rgD_len] at this
            exact this
          rw [rgD_get hj, Int.zero_add] at hd
          cases hd
          walk_at "b"
          refine inq_l rfl rfl (by unfold SeqAt.shaped; simp [PyData.canLay0, PyData.depth]) so ?_
          walk_at "b"
          refine Br.var (fun hb => ?_) fun hb => ?_
          · walk_at "b"
            show _ = List.map _ _
            rw [snoc, if_pos hb, List.map_append]
            rfl
          · show _ = List.map _ _
            rw [snoc, if_neg (by rw [show (!(out.any fun z => PyData.eqv z (.int (j : Nat)))) = false from hb]; exact Bool.false_ne_true), List.append_nil]
        · intro out2 ho2
          rw [rgD_len] at ho2
          have h0 : out2[0]? = some (natD r) := by
            rw [ho2, List.getElem?_map, ← List.head?_eq_getElem?, hpr]
            rfl
          walk_at "b"
          refine ixq_lst rfl (atI_nat (j := 0) h0) ?_
          walk_at "b"
          refine ⟨fs ++ [r], ?_, by rw [List.map_append]; walk_at "w"⟩
          rw [List.length_append, hn]
          show RS s (List.map _ (List.take (n + 1) ps)) _
          rw [xnext]
          exact hr1
    · intro fs hrs
      rw [List.length_range, List.take_length] at hrs
      obtain ⟨last, e, _⟩ := hrs
      walk_at "b"
      refine ⟨rfl, ?_⟩
      unfold rowsOf at hk
      rw [e] at hk
      exact hk
theorem ok__law_seats (T : Tp K mg) (G__law_rows : FnG P w K mg base CX0 1 T.f__law_rows T.fd__law_rows ["_law_picture", "_law_spacing"] (spOf K sp_lrowsF)) : FnG P w K mg base CX0 2 T.f__law_seats T.fd__law_seats ["_law_picture", "_law_spacing"] (spOf K sp_lseatsF) := by
  refine fn_ok T.F__law_seats sc__law_seats (fun rs k h => ?_) fun cdv A outer s H E rs k hg hr h => ?_
  · obtain ⟨ps, s, rfl, _⟩ := h
    rfl
  · obtain ⟨ps, s, rfl, hl, hs, hw, hk⟩ := h
    refine ⟨_, (pss_one (ps_ret (pe_callTy (qTuple K) (by rfl) T.z_tuple (by decide +kernel) (pa_cons (pe_lc (own := [("_law_lamp", 2), ("_law_row", 3)]) rfl sc__law_seats.nd (qZip K T.z_zip (pa_cons (pv 0) (pa_cons (pe_g G__law_rows hg (hr.mono (by decide)) T.m__law_rows T.F__law_rows.kp T.b__law_rows .nil pass0 (pa_cons (pv 0) (pa_cons (pv 1) pa_nil))) pa_nil))) (blkOk_by (N := ["_law_picture", "_law_spacing", "_law_lamp", "_law_row"]) (sc := defScope s__law_seats) (by decide +kernel)) (fun _ _ _ _ _ => (qTup K 2 (pgs_cons (pg_name (i := 2) sc__law_seats.nd rfl (.inl rfl)) (pgs_cons (pg_name (i := 3) sc__law_seats.nd rfl (.inl rfl)) pgs_nil)))) (fun _ _ _ _ _ => pts_nil) (fun _ _ _ _ _ => (pe_tup (pa_cons (pe_ix (qIxA K (hu1 hr)) (pv 2) pe_int (fun _ _ => rfl)) (pa_cons (pe_frz (pe_op (qMulC K) (pv 3) (pv 1))) pa_nil))))) pa_nil)))), ?_⟩
    show SD K _ _ [.dat (.tuple (ps.map lampD)), .dat (.int s), .any, .any]
    walk_at "b"
    refine ⟨ps, s, rfl, hl, hw, ?_⟩
    walk_at "b"
    refine ZipQ.t ?_
    have rl := rows_len s (ps.map (·.x))
    rw [List.length_map] at rl
    have zl : (zipD (ps.map lampD) ((rowsOf s (ps.map (·.x))).map natD)).length = ps.length := by
      rw [zipD_len, List.length_map, List.length_map, rl, Nat.min_self]
    refine lc_fn ((List.range ps.length).map (seatD s ps)) (by rw [zl, List.length_map, List.length_range]) (by rw [zl]; omega) ?_ ?_
    · intro i d hd
      have hi : i < ps.length := by
        have := (List.getElem?_eq_some_iff.mp hd).1
        rw [zl] at this
        exact this
      obtain ⟨⟨lx, lz, lsh, lw⟩, hl1⟩ : ∃ l, ps[i]? = some l := ⟨ps[i], List.getElem?_eq_getElem hi⟩
      have g1 : (ps.map lampD)[i]? = some (.tuple [.int lx, .int lz, lsh, .int lw]) := by rw [List.getElem?_map, hl1]; rfl
      have g2 : ((rowsOf s (ps.map (·.x))).map natD)[i]? = some (.int (((rowsOf s (ps.map (·.x))).getD i 0 : Nat) : Int)) := by
        rw [List.getElem?_map, List.getD_eq_getElem?_getD, List.getElem?_eq_getElem (by rw [rl]; exact hi)]
        rfl
      have g3 : (ps.map (·.x)).getD i 0 = lx := by rw [List.getD_eq_getElem?_getD, List.getElem?_map, hl1]; rfl
      have g4 : ((List.range ps.length).map (seatD s ps))[i]? = some (.tuple [.int lx, .int ((((rowsOf s (ps.map (·.x))).getD i 0 : Nat) : Int) * s)]) := by
        rw [List.getElem?_map, List.getElem?_range hi]
        show some (seatD s ps i) = _
        unfold seatD
        rw [g3]
      rw [zipD_get g1 g2] at hd
      cases hd
      rw [g4]
      generalize (((rowsOf s (ps.map (·.x))).getD i 0 : Nat) : Int) = r
      walk_at "b"
      rfl
    · walk_at "b"
      rw [seatsC_d]
      exact ⟨rfl, hk⟩
theorem ok__law_fame (T : Tp K mg) (TBM : ∃ c P, T.fd__law_fame.code = .ref c ∧ LamX.TabB base mg c P ∧ (P, (PyProof.Rows.envOfC "_law_fame" (defScope s__law_fame) 0 0 Value.none).qual ++ "<lambda>") ∈ LamT.T ∧ ∀ p ∈ LamT.T, p.1 = P → p.2 = (PyProof.Rows.envOfC "_law_fame" (defScope s__law_fame) 0 0 Value.none).qual ++ "<lambda>")  : FnG P w K mg base CX0 5 T.f__law_fame T.fd__law_fame ["_law_picture"] (spOf K sp_fameF) := by
  obtain ⟨c0, P0, hcode, TBl, hmT, hu⟩ := TBM
  refine fn_okC T.F__law_fame sc__law_fame (fun rs k h => ?_) fun cdv A outer s H E rs k hcd hg hr h => ?_
  · obtain ⟨ps, rfl, _⟩ := h
    rfl
  · obtain ⟨ps, rfl, hl, hk⟩ := h
    refine ⟨_, (pss_one (ps_ret (pe_callTy (qTuple K) (by rfl) T.z_tuple (by decide +kernel) (pa_cons (pe_sortK (k := 1) hg (hr.mono (by decide)) T.z_sorted TBl (hcd.symm.trans hcode) hmT hu (lamS1_by (sc := defScope s__law_fame) (a := "_law_at") (by decide +kernel)) (show ("_law_at" : Str) ∉ (["_law_picture"] : List Str) from by decide) rfl (fun _ _ _ _ _ _ => rfl) (fun A outer s H f c1 v hg hr => (pe_tup (pa_cons (pe_op oSub pe_int (pe_ix (qIxA K (hu1 hr)) (pe_ix (qIxA K (hu1 hr)) (pv 0) (pv 1) (fun _ _ => rfl)) pe_int (fun _ _ => rfl))) (pa_cons (pv 1) pa_nil)))) (qListRg T.z_list (qRg1 T.z_range (pe_callB (qLen K) (by rfl) T.z_len (by decide +kernel) (pa_cons (pv 0) pa_nil))))) pa_nil)))), ?_⟩
    show SD K _ _ [.dat (.tuple (ps.map lampD))]
    walk_at "b"
    refine ec_sortK ?_
    walk_at "b"
    rw [List.length_map, Int.toNat_natCast]
    refine ⟨by omega, by omega, (List.range ps.length).map natD, keyF ps, rfl, ?_, ?_, fun d hd => ?_, fun d hd v => ?_, ?_⟩
    · rw [keyF_all]
      exact alike_cs _
    · rw [keyF_all]
      exact sortable_cs _
    · obtain ⟨i, _, rfl⟩ := List.mem_map.mp hd
      rw [keyF_nat]
      simp [cD, PyData.depth, PyData.depthAll]
    · obtain ⟨i, hi, rfl⟩ := List.mem_map.mp hd
      have hi := List.mem_range.mp hi
      have e1 := lampAtF_get hi
      have e2 := wtI_get hi
      have e3 : keyF ps (natD i) = .tuple [.int (0 - wtI ps i), .int (i : Nat)] := by
        rw [keyF_nat, Int.zero_sub]
        rfl
      rw [e3, ← e2]
      generalize lampAtF ps i = l at *
      obtain ⟨lx, lz, lsh, lw⟩ := l
      have g1 : (ps.map lampD)[i]? = some (.tuple [.int lx, .int lz, lsh, .int lw]) := by rw [List.getElem?_map, e1]; rfl
      show EvC K _ [.dat (.tuple (ps.map lampD)), .dat (.int (i : Nat))] _
      walk_at "b"
      refine ixq_tup (atI_nat g1) ?_
      walk_at "b"
    · rw [fame_key]
      walk_at "b"
      exact ⟨rfl, hk⟩
theorem ok_fame (T : Tp K mg)  : FnG P w K mg base CX0 1 T.f_fame T.fd_fame ["picture"] (spOf K sp_fameF) := by
  refine fn_ok T.F_fame sc_fame (fun rs k h => ?_) fun cdv A outer s H E rs k hg hr h => ?_
  · obtain ⟨ps, rfl, _⟩ := h
    rfl
  · obtain ⟨ps, rfl, hl, hk⟩ := h
    refine ⟨_, (pss_one (ps_ret (pe_callTy (qTuple K) (by rfl) T.z_tuple (by decide +kernel) (pa_cons (pe_lc (own := [("_less", 1), ("index", 2)]) rfl sc_fame.nd (qSeq K (pe_callB (qSortD K (hu64 hr)) (by rfl) T.z_sorted (by decide +kernel) (pa_cons (pe_lc (own := [("index", 2), ("lamp", 3)]) rfl sc_fame.nd (qEnum K T.z_enumerate (pa_cons (pv 0) pa_nil)) (blkOk_by (N := ["picture", "_less", "index", "lamp"]) (sc := defScope s_fame) (by decide +kernel)) (fun _ _ _ _ _ => (qTup K 2 (pgs_cons (pg_name (i := 2) sc_fame.nd rfl (.inl rfl)) (pgs_cons (pg_name (i := 3) sc_fame.nd rfl (.inl rfl)) pgs_nil)))) (fun _ _ _ _ _ => pts_nil) (fun _ _ _ _ _ => (pe_tup (pa_cons (pe_un oNeg (pe_ix (qIxA K (hu1 hr)) (pv 3) pe_int (fun _ _ => rfl))) (pa_cons (pv 2) pa_nil))))) pa_nil))) (blkOk_by (N := ["picture", "_less", "index", "lamp"]) (sc := defScope s_fame) (by decide +kernel)) (fun _ _ _ _ _ => (qTup K 2 (pgs_cons (pg_name (i := 1) sc_fame.nd rfl (.inl rfl)) (pgs_cons (pg_name (i := 2) sc_fame.nd rfl (.inl rfl)) pgs_nil)))) (fun _ _ _ _ _ => pts_nil) (fun _ _ _ _ _ => (pv 2))) pa_nil)))), ?_⟩
    show SD K _ _ [.dat (.tuple (ps.map lampD)), .any, .any, .any]
    walk_at "b"
    refine ⟨_, _, rfl, rfl, ?_⟩
    have el : (enumD (ps.map lampD)).length = ps.length := by rw [enumD_len, List.length_map]
    refine lc_fn ((fameC ps).map cD) (by rw [el]; unfold fameC; rw [List.length_map, List.length_map, List.length_range]) (by rw [el]; omega) ?_ ?_
    · intro i d hd
      have hi : i < ps.length := by
        have := (List.getElem?_eq_some_iff.mp hd).1
        rw [el] at this
        exact this
      have g1 : (ps.map lampD)[i]? = some (lampD ps[i]) := by rw [List.getElem?_map, List.getElem?_eq_getElem hi]; rfl
      rw [enumD_get g1] at hd
      cases hd
      have g2 : ((fameC ps).map cD)[i]? = some (.tuple [.int (-(ps[i].wt)), .int (i : Nat)]) := by
        unfold fameC
        rw [List.getElem?_map, List.getElem?_map, List.getElem?_range hi]
        show some (cD (-(wtI ps i), ((i : Nat) : Int))) = _
        unfold wtI
        rw [List.getD_eq_getElem?_getD, List.getElem?_map, List.getElem?_eq_getElem hi]
        rfl
      rw [g2]
      generalize ps[i] = l at *
      walk_at "b"
      rfl
    walk_at "b"
    refine sort_c (.inl rfl) ?_
    walk_at "b"
    refine lc_mapc ((fameC ps).mergeSort leC) cD (fun c => .int c.2) (by rw [List.length_mergeSort]; unfold fameC; rw [List.length_map, List.length_range]; omega) (fun c _ => ?_) ?_
    · show GE K _ (.dat (.tuple [.int c.1, .int c.2])) _ _ _
      walk_at "b"
      rfl
    rw [fameI_d]
    walk_at "b"
    exact ⟨rfl, hk⟩
theorem ok_rows_of (T : Tp K mg)  : FnG P w K mg base CX0 1 T.f_rows_of T.fd_rows_of ["picture", "spacing"] (spOf K sp_rows) := by
  refine fn_ok T.F_rows_of sc_rows_of (fun rs k h => ?_) fun cdv A outer s H E rs k hg hr h => ?_
  · obtain ⟨ps, s, rfl, _⟩ := h
    rfl
  · obtain ⟨ps, s, rfl, hl, hk⟩ := h
    refine ⟨_, (pss_cons (ps_par (i := 2) (j := 3) rfl sc_rows_of.nd rfl rfl (by decide) rfl rfl (pa_cons (pe_lst pa_nil) (pa_cons (pe_lst pa_nil) pa_nil)) rfl)
        (pss_cons (ps_for PassesOwn.never rfl (qSeq K (pv 0)) (pg_name (i := 4) sc_rows_of.nd rfl (.inr rfl)) (pss_cons (ps_setLc (i := 6) (own := [("row", 5), ("x", 7)]) rfl sc_rows_of.nd rfl rfl (sw_true rfl rfl rfl (by decide +kernel)) (qEnum K T.z_enumerate (pa_cons (pv 2) pa_nil)) (blkOk_by (N := ["picture", "spacing", "last", "found", "lamp", "row", "free", "x"]) (sc := defScope s_rows_of) (by decide +kernel)) (fun _ _ _ _ _ => (qTup K 2 (pgs_cons (pg_name (i := 5) sc_rows_of.nd rfl (.inl rfl)) (pgs_cons (pg_name (i := 7) sc_rows_of.nd rfl (.inl rfl)) pgs_nil)))) (fun _ _ _ _ _ => (pts_one (pt_cmpR oGe (pe_op oSub (pe_ix (qIxA K (hu1 hr)) (pv 4) pe_int (fun _ _ => rfl)) (pv 7)) (pv 1) (nomark _)))) (fun _ _ _ _ _ => (pv 5)))
        (pss_cons (ps_set (i := 5) sc_rows_of.nd rfl (.inl rfl) (pe_ifExp (pt_cmpR (qNeA K (hu64 hr)) (pv 6) (pe_lst pa_nil) (nomark _)) (pe_ix (qIxA K (hu1 hr)) (pv 6) pe_int (fun _ _ => rfl)) (pe_callB (qLen K) (by rfl) T.z_len (by decide +kernel) (pa_cons (pv 2) pa_nil))))
        (pss_cons (ps_set (i := 2) sc_rows_of.nd rfl (.inl rfl) (pe_op (qAdd K) (pe_op (qAdd K) (pe_slice (qSl K) (pv 2) po_none (po_some (pv 5))) (pe_lst (pa_cons (pe_ix (qIxA K (hu1 hr)) (pv 4) pe_int (fun _ _ => rfl)) pa_nil))) (pe_slice (qSl K) (pv 2) (po_some (pe_op (qAdd K) (pv 5) pe_int)) po_none)))
        (pss_one (ps_expr (kBm K (pe_bm PySem.F.plainAttrs_list PySem.F.slot_list_append PySem.F.type_list_append mt_append (pv 3) (pa_cons (pv 5) pa_nil)))))))))
        (pss_one (ps_ret (pe_callTy (qTuple K) (by rfl) T.z_tuple (by decide +kernel) (pa_cons (pv 3) pa_nil)))))), ?_⟩
    show SD K _ _ [.dat (.tuple (ps.map lampD)), .dat (.int s), .any, .any, .any, .any, .any, .any]
    walk_at "g"
    refine forp_inv ps lampD (fun pre (a : List Int × List Nat) => a = rowSt s (pre.map (·.x)) ∧ a.1.length ≤ pre.length ∧ a.2.length = pre.length) (fun a => [.dat (.tuple (ps.map lampD)), .dat (.int s), .own (a.1.map .int), .own (a.2.map natD), .any, .any, .any, .any]) ⟨([], []), ⟨rfl, by simp, by simp⟩, by walk_at "w"⟩ ?_ ?_
    · rintro pre l post ⟨last, found⟩ hp ⟨h1, h2, h3⟩
      dsimp only at h1 h2 h3
      have hpl : pre.length < 20 := by
        have := congrArg List.length hp
        simp at this
        omega
      obtain ⟨lx, lz, lsh, lw⟩ := l
      have e1 : rowSt s ((pre ++ [(⟨lx, lz, lsh, lw⟩ : Lamp)]).map (·.x)) = (lastTo s lx last, found ++ [rowFor s lx last]) := by
        rw [List.map_append]
        show rowSt s (_ ++ [lx]) = _
        rw [rowSt_snoc, ← h1]
      show GS K _ (.dat (.tuple [.int lx, .int lz, lsh, .int lw])) _ _
      refine gs_name ?_
      dsimp only [List.set, sto]
      refine sd_mid (fun δ' => Wk δ' [.dat (.tuple (ps.map lampD)), .dat (.int s), .own (last.map .int), .own (found.map natD), .dat (.tuple [.int lx, .int lz, lsh, .int lw]), .any, .own ((fr s lx last).map natD), .any]) ?_ ?_
      · walk_at "g"
        refine ⟨_, _, rfl, rfl, ?_⟩
        refine ⟨fun i acc => acc = ((List.range i).filter fun r => decide (s ≤ lx - last.getD r 0)).map natD, rfl, ?_, ?_, ?_⟩
        · rw [enumD_len, List.length_map]
          omega
        · intro i d acc hd ha
          have hi : i < last.length := by
            have := (List.getElem?_eq_some_iff.mp hd).1
            rw [enumD_len, List.length_map] at this
            exact this
          have hd2 : (last.map PyData.int)[i]? = some (.int (last.getD i 0)) := by
            rw [List.getElem?_map, List.getD_eq_getElem?_getD, List.getElem?_eq_getElem hi]
            rfl
          rw [enumD_get hd2] at hd
          cases hd
          subst ha
          have en : ((List.range (i + 1)).filter fun r => decide (s ≤ lx - last.getD r 0)) = (List.range i).filter (fun r => decide (s ≤ lx - last.getD r 0)) ++ if s ≤ lx - last.getD i 0 then [i] else [] := by
            rw [List.range_succ, List.filter_append]
            congr 1
            by_cases h : s ≤ lx - last.getD i 0
            · rw [if_pos h]
              simp only [List.filter_cons, List.filter_nil, decide_eq_true h, if_true]
            · rw [if_neg h]
              simp only [List.filter_cons, List.filter_nil, decide_eq_false h]
              rfl
          generalize last.getD i 0 = y at *
          walk_at "g"
          refine Br.dec (fun hc => ?_) fun hc => ?_
          · walk_at "g"
            show _ = List.map natD _
            rw [en, if_pos hc, List.map_append]
            rfl
          · show _ = List.map natD _
            rw [en, if_neg hc, List.append_nil]
        · intro out ho
          rw [enumD_len, List.length_map] at ho
          subst ho
          walk_at "g"
          show Wk _ [_, _, _, _, _, _, .own (List.map natD (List.filter (fun r => decide (s ≤ lx - last.getD r 0)) (List.range last.length))), _]
          walk_at "w"
      intro δ' w
      refine sd_wk w ?_
      clear w
      refine sd_mid (fun δ' => Wk δ' [.dat (.tuple (ps.map lampD)), .dat (.int s), .own (last.map .int), .own (found.map natD), .dat (.tuple [.int lx, .int lz, lsh, .int lw]), .dat (natD (rowFor s lx last)), .any, .any]) ?_ ?_
      · unfold rowFor
        cases hfr : fr s lx last with
        | nil =>
          walk_at "g"
          refine neq_nil rfl (sh_ints _ []) ?_
          walk_at "g"
          refine Br.f ?_
          walk_at "g"
          rw [List.length_map]
          walk_at "w"
        | cons r rest =>
          walk_at "g"
          refine neq_nil rfl (sh_ints (fun r : Nat => (r : Int)) (r :: rest)) ?_
          walk_at "g"
          refine Br.t ?_
          walk_at "g"
          refine ixq_lst rfl (atI_nat (j := 0) rfl) ?_
          walk_at "g"
          walk_at "w"
      intro δ' w
      refine sd_wk w ?_
      clear w
      have hr := rowFor_le s lx last
      generalize hrf : rowFor s lx last = r at *
      unfold natD
      walk_at "g"
      rw [cut_take _ (by rw [List.length_map]; exact hr)]
      refine AddP.lst rfl rfl (by rw [List.length_take, List.length_map]; show _ + 1 ≤ sizeLine; unfold sizeLine; omega) ?_
      walk_at "g"
      rw [show ((r : Nat) : Int) + 1 = ((r + 1 : Nat) : Int) by omega, cut_drop]
      refine AddP.lst rfl rfl (by simp only [List.length_append, List.length_take, List.length_drop, List.length_map, List.length_cons, List.length_nil]; unfold sizeLine; omega) ?_
      have hfl : (found.map fun r : Nat => PyData.int (r : Int)).length < 1000000 := by rw [List.length_map]; omega
      walk_at "g"
      refine ⟨(lastTo s lx last, found ++ [r]), ⟨by rw [← e1], ?_, by simp [h3]⟩, ?_⟩
      · dsimp only [lastTo]
        rw [hrf]
        simp only [List.length_append, List.length_take, List.length_drop, List.length_cons, List.length_nil]
        omega
      · dsimp only [lastTo]
        rw [hrf, List.map_append, List.map_append, List.map_append, List.map_take, List.map_drop]
        walk_at "w"
    · rintro ⟨last, found⟩ ⟨h1, h2, h3⟩
      walk_at "g"
      refine ⟨rfl, ?_⟩
      unfold rowsOf at hk
      rw [← h1] at hk
      exact hk
theorem ok_seats_of (T : Tp K mg) (G_rows_of : FnG P w K mg base CX0 1 T.f_rows_of T.fd_rows_of ["picture", "spacing"] (spOf K sp_rows)) : FnG P w K mg base CX0 2 T.f_seats_of T.fd_seats_of ["picture", "spacing"] (spOf K sp_seats) := by
  refine fn_ok T.F_seats_of sc_seats_of (fun rs k h => ?_) fun cdv A outer s H E rs k hg hr h => ?_
  · obtain ⟨ps, s, rfl, _⟩ := h
    rfl
  · obtain ⟨ps, s, rfl, hl, hs, hk⟩ := h
    refine ⟨_, (pss_one (ps_ret (pe_callTy (qTuple K) (by rfl) T.z_tuple (by decide +kernel) (pa_cons (pe_lc (own := [("lamp", 2), ("row", 3)]) rfl sc_seats_of.nd (qZip K T.z_zip (pa_cons (pv 0) (pa_cons (pe_g G_rows_of hg (hr.mono (by decide)) T.m_rows_of T.F_rows_of.kp T.b_rows_of .nil pass0 (pa_cons (pv 0) (pa_cons (pv 1) pa_nil))) pa_nil))) (blkOk_by (N := ["picture", "spacing", "lamp", "row"]) (sc := defScope s_seats_of) (by decide +kernel)) (fun _ _ _ _ _ => (qTup K 2 (pgs_cons (pg_name (i := 2) sc_seats_of.nd rfl (.inl rfl)) (pgs_cons (pg_name (i := 3) sc_seats_of.nd rfl (.inl rfl)) pgs_nil)))) (fun _ _ _ _ _ => pts_nil) (fun _ _ _ _ _ => (pe_tup (pa_cons (pe_ix (qIxA K (hu1 hr)) (pv 2) pe_int (fun _ _ => rfl)) (pa_cons (pe_frz (pe_op (qMulC K) (pv 3) (pv 1))) pa_nil))))) pa_nil)))), ?_⟩
    show SD K _ _ [.dat (.tuple (ps.map lampD)), .dat (.int s), .any, .any]
    walk_at "g"
    refine ⟨ps, s, rfl, hl, ?_⟩
    walk_at "g"
    refine ZipQ.t ?_
    have rl := rows_len s (ps.map (·.x))
    rw [List.length_map] at rl
    have zl : (zipD (ps.map lampD) ((rowsOf s (ps.map (·.x))).map natD)).length = ps.length := by
      rw [zipD_len, List.length_map, List.length_map, rl, Nat.min_self]
    refine lc_fn ((List.range ps.length).map (seatD s ps)) (by rw [zl, List.length_map, List.length_range]) (by rw [zl]; omega) ?_ ?_
    · intro i d hd
      have hi : i < ps.length := by
        have := (List.getElem?_eq_some_iff.mp hd).1
        rw [zl] at this
        exact this
      obtain ⟨⟨lx, lz, lsh, lw⟩, hl1⟩ : ∃ l, ps[i]? = some l := ⟨ps[i], List.getElem?_eq_getElem hi⟩
      have g1 : (ps.map lampD)[i]? = some (.tuple [.int lx, .int lz, lsh, .int lw]) := by rw [List.getElem?_map, hl1]; rfl
      have g2 : ((rowsOf s (ps.map (·.x))).map natD)[i]? = some (.int (((rowsOf s (ps.map (·.x))).getD i 0 : Nat) : Int)) := by
        rw [List.getElem?_map, List.getD_eq_getElem?_getD, List.getElem?_eq_getElem (by rw [rl]; exact hi)]
        rfl
      have g3 : (ps.map (·.x)).getD i 0 = lx := by rw [List.getD_eq_getElem?_getD, List.getElem?_map, hl1]; rfl
      have g4 : ((List.range ps.length).map (seatD s ps))[i]? = some (.tuple [.int lx, .int ((((rowsOf s (ps.map (·.x))).getD i 0 : Nat) : Int) * s)]) := by
        rw [List.getElem?_map, List.getElem?_range hi]
        show some (seatD s ps i) = _
        unfold seatD
        rw [g3]
      rw [zipD_get g1 g2] at hd
      cases hd
      rw [g4]
      generalize (((rowsOf s (ps.map (·.x))).getD i 0 : Nat) : Int) = r
      walk_at "g"
      rfl
    · walk_at "g"
      rw [seatsC_d]
      exact ⟨rfl, hk⟩
theorem ok_goals_of (T : Tp K mg) (G_seats_of : FnG P w K mg base CX0 2 T.f_seats_of T.fd_seats_of ["picture", "spacing"] (spOf K sp_seats)) (G_fame : FnG P w K mg base CX0 1 T.f_fame T.fd_fame ["picture"] (spOf K sp_fameF)) : FnG P w K mg base CX0 3 T.f_goals_of T.fd_goals_of ["picture", "spacing", "many"] (spOf K sp_goalsF) := by
  refine fn_ok T.F_goals_of sc_goals_of (fun rs k h => ?_) fun cdv A outer s H E rs k hg hr h => ?_
  · obtain ⟨ps, s, m, rfl, _⟩ := h
    rfl
  · obtain ⟨ps, s, m, rfl, hl, hs, hm, hk⟩ := h
    refine ⟨_, (pss_cons (ps_set (i := 3) sc_goals_of.nd rfl (.inr rfl) (pe_g G_seats_of hg (hr.mono (by decide)) T.m_seats_of T.F_seats_of.kp T.b_seats_of .nil pass0 (pa_cons (pv 0) (pa_cons (pv 1) pa_nil))))
        (pss_one (ps_ret (pe_callTy (qTuple K) (by rfl) T.z_tuple (by decide +kernel) (pa_cons (pe_lc (own := [("index", 4)]) rfl sc_goals_of.nd (qSeq K (pe_slice (qSl K) (pe_g G_fame hg (hr.mono (by decide)) T.m_fame T.F_fame.kp T.b_fame .nil pass0 (pa_cons (pv 0) pa_nil)) po_none (po_some (pv 2)))) (blkOk_by (N := ["picture", "spacing", "many", "seats", "index"]) (sc := defScope s_goals_of) (by decide +kernel)) (fun _ _ _ _ _ => (pg_name (i := 4) sc_goals_of.nd rfl (.inl rfl))) (fun _ _ _ _ _ => pts_nil) (fun _ _ _ _ _ => (pe_ix (qIxA K (hu1 hr)) (pv 3) (pv 4) (fun _ _ => rfl)))) pa_nil))))), ?_⟩
    show SD K _ _ [.dat (.tuple (ps.map lampD)), .dat (.int s), .dat (.int (m : Nat)), .any, .any]
    walk_at "b"
    refine ⟨ps, s, rfl, hl, hs, ?_⟩
    walk_at "b"
    refine ⟨hl, ?_⟩
    walk_at "b"
    rw [cut_takeX, ← List.map_take]
    refine lc_mapc ((fameI ps).take m) natD (fun i => cD (seatC s ps i)) (by rw [List.length_take, fameI_len]; omega) (fun i hi => ?_) ?_
    · have hi2 := List.mem_range.mp ((fameI_perm ps).mem_iff.mp (List.mem_of_mem_take hi))
      show GE K _ (.dat (.int (i : Nat))) _ _ _
      walk_at "b"
      refine ixq_tup (ix_at (seat_get hi2)) ?_
      rfl
    have e : ((fameI ps).take m).map (fun i => cD (seatC s ps i)) = (goalsC s ps m).map cD := by
      unfold goalsC
      rw [List.map_map]
      rfl
    rw [e]
    walk_at "b"
    exact ⟨rfl, hk⟩
theorem ok_dark_of (T : Tp K mg) (G_fame : FnG P w K mg base CX0 1 T.f_fame T.fd_fame ["picture"] (spOf K sp_fameF)) : FnG P w K mg base CX0 2 T.f_dark_of T.fd_dark_of ["picture", "many"] (spOf K sp_darkF) := by
  refine fn_ok T.F_dark_of sc_dark_of (fun rs k h => ?_) fun cdv A outer s H E rs k hg hr h => ?_
  · obtain ⟨ps, m, rfl, _⟩ := h
    rfl
  · obtain ⟨ps, m, rfl, hl, hm, hk⟩ := h
    refine ⟨_, (pss_one (ps_ret (pe_callTy (qTuple K) (by rfl) T.z_tuple (by decide +kernel) (pa_cons (pe_callB (qSortD K (hu64 hr)) (by rfl) T.z_sorted (by decide +kernel) (pa_cons (pe_slice (qSl K) (pe_g G_fame hg (hr.mono (by decide)) T.m_fame T.F_fame.kp T.b_fame .nil pass0 (pa_cons (pv 0) pa_nil)) (po_some (pv 1)) po_none) pa_nil)) pa_nil)))), ?_⟩
    show SD K _ _ [.dat (.tuple (ps.map lampD)), .dat (.int (m : Nat))]
    walk_at "b"
    refine ⟨hl, ?_⟩
    walk_at "b"
    rw [cut_drop, ← List.map_drop]
    refine sort_nats (.inr rfl) ?_
    rw [dark_d]
    walk_at "b"
    exact ⟨rfl, hk⟩
theorem ok_shade_at (T : Tp K mg)  : FnG P w K mg base CX0 1 T.f_shade_at T.fd_shade_at ["shades", "tick"] (spOf K sp_shadeat) := by
  refine fn_ok T.F_shade_at sc_shade_at (fun rs k h => ?_) fun cdv A outer s H E rs k hg hr h => ?_
  · obtain ⟨d, t, rfl, _⟩ := h
    rfl
  · obtain ⟨d, t, rfl, hd, ht, hk⟩ := h
    obtain ⟨ds, rfl, h1, h2, h3⟩ := hd
    refine ⟨_, (pss_one (ps_ret (pe_ix (qIxA K (hu1 hr)) (pv 0) (pe_op oMod (pv 1) (pe_callB (qLen K) (by rfl) T.z_len (by decide +kernel) (pa_cons (pv 0) pa_nil))) (fun _ _ => rfl)))), ?_⟩
    show SD K _ _ [.dat (.tuple ds), .dat (.int (t : Nat))]
    have hl : t % ds.length < ds.length := Nat.mod_lt _ h1
    walk_at "b"
    rw [show ((t : Nat) : Int) % ((ds.length : Nat) : Int) = ((t % ds.length : Nat) : Int) from (Int.natCast_emod ..).symm]
    have e : ds[t % ds.length]? = some (shAt (.tuple ds) t) := by
      show _ = some (ds.getD (t % ds.length) .none)
      rw [List.getD_eq_getElem?_getD, List.getElem?_eq_getElem hl]
      rfl
    exact ixq_tup (atI_nat e) ⟨rfl, hk⟩
theorem ok_seen_from (T : Tp K mg) (G_shade_at : FnG P w K mg base CX0 1 T.f_shade_at T.fd_shade_at ["shades", "tick"] (spOf K sp_shadeat)) (G_seats_of : FnG P w K mg base CX0 2 T.f_seats_of T.fd_seats_of ["picture", "spacing"] (spOf K sp_seats)) : FnG P w K mg base CX0 3 T.f_seen_from T.fd_seen_from ["picture", "spacing", "columns", "tick"] (spOf K sp_seenF) := by
  refine fn_ok T.F_seen_from sc_seen_from (fun rs k h => ?_) fun cdv A outer s H E rs k hg hr h => ?_
  · obtain ⟨x, ps, s, cols, t, rfl, _⟩ := h
    rfl
  · obtain ⟨x, ps, s, cols, t, rfl, hx, hc, hl, hs, hps, ht, hk⟩ := h
    refine ⟨_, (pss_cons (ps_par (i := 4) (j := 5) rfl sc_seen_from.nd rfl rfl (by decide) rfl rfl (pa_cons (pe_dcA (o0 := emp true) (own := [("one", 11)]) emp_ok rfl (hu0 hr) sc_seen_from.nd (qSeq K (pv 2)) (blkOk_by (N := ["picture", "spacing", "columns", "tick", "stand", "found", "x", "z", "shades", "_weight", "seat", "one"]) (sc := defScope s_seen_from) (by decide +kernel)) (fun _ _ _ _ _ => (pg_name (i := 11) sc_seen_from.nd rfl (.inl rfl))) (fun _ _ _ _ _ => pts_nil) (fun _ _ _ _ _ => (pv 11)) (fun _ _ _ _ _ => pe_bl)) (pa_cons (pe_lst pa_nil) pa_nil)) rfl)
        (pss_cons (ps_for PassesOwn.never rfl (qZip K T.z_zip (pa_cons (pv 0) (pa_cons (pe_frz (pe_g G_seats_of hg (hr.mono (by decide)) T.m_seats_of T.F_seats_of.kp T.b_seats_of .nil pass0 (pa_cons (pv 0) (pa_cons (pv 1) pa_nil)))) pa_nil))) (qTup K 2 (pgs_cons (qTup K 4 (pgs_cons (pg_name (i := 6) sc_seen_from.nd rfl (.inl rfl)) (pgs_cons (pg_name (i := 7) sc_seen_from.nd rfl (.inl rfl)) (pgs_cons (pg_name (i := 8) sc_seen_from.nd rfl (.inl rfl)) (pgs_cons (pg_name (i := 9) sc_seen_from.nd rfl (.inl rfl)) pgs_nil))))) (pgs_cons (pg_name (i := 10) sc_seen_from.nd rfl (.inl rfl)) pgs_nil))) (pss_one (ps_if (pt_cmpR (qInA K (hu65 hr)) (pv 10) (pv 4) (by with_unfolding_all rfl)) (pss_one (ps_expr (kBm K (pe_bm PySem.F.plainAttrs_list PySem.F.slot_list_append PySem.F.type_list_append mt_append (pv 5) (pa_cons (pe_tup (pa_cons (pv 6) (pa_cons (pv 7) (pa_cons (pe_frz (pe_g G_shade_at hg (hr.mono (by decide)) T.m_shade_at T.F_shade_at.kp T.b_shade_at .nil pass0 (pa_cons (pv 8) (pa_cons (pv 3) pa_nil)))) pa_nil)))) pa_nil))))) pss_nil)))
        (pss_one (ps_ret (pe_callTy (qTuple K) (by rfl) T.z_tuple (by decide +kernel) (pa_cons (pv 5) pa_nil)))))), ?_⟩
    obtain ⟨y, hy, hy2, hy3⟩ := seq_slot3 hx
    have hyw : y.walked = some (cols.map cD) := by rcases hx with rfl | rfl | rfl <;> (cases hy; rfl)
    show SD K _ _ [.dat (.tuple (ps.map lampD)), .dat (.int s), argSlot x, .dat (.int (t : Nat)), .any, .any, .any, .any, .any, .any, .any, .any]
    generalize argSlot x = X at *
    walk_at "b"
    refine ⟨_, hyw, ?_⟩
    refine ⟨fun i acc => ∃ kds : List (Col × PyData), acc = cdD kds ∧ kds.length ≤ i ∧ ∀ c, (lookG kds c).isSome = decide (c ∈ cols.take i), ⟨[], rfl, Nat.le_refl _, fun c => by simp [lookG]⟩, by rw [List.length_map]; omega, ?_, ?_⟩
    · rintro i d acc hd ⟨kds, rfl, hk1, hk2⟩
      rw [List.getElem?_map] at hd
      obtain ⟨c, hc1, rfl⟩ := Option.map_eq_some_iff.mp hd
      have hi := (List.getElem?_eq_some_iff.mp hc1).1
      walk_at "b"
      refine ⟨_, _, rfl, put_c T.st kds c (.bool true) (by omega), _, rfl, Nat.le_trans (putG_len ..) (by omega), fun a => ?_⟩
      rw [lookG_put, List.take_add_one, hc1]
      by_cases h : a = c
      · rw [if_pos h]
        simp [h]
      · rw [if_neg h, hk2]
        simp [h]
    · rintro out ⟨kds, rfl, _, hk2⟩
      rw [List.length_map, List.take_length] at hk2
      walk_at "b"
      refine ⟨ps, s, rfl, hl, hs, ?_⟩
      walk_at "b"
      refine ZipQ.t ?_
      rw [zip_seats]
      refine forp_inv (List.range ps.length) _ (fun pre (acc : List PyData) => acc = seenC s ps cols t pre.length) (fun acc => [.dat (.tuple (ps.map lampD)), .dat (.int s), X, .dat (.int (t : Nat)), .ownD true (cdD kds), .own acc, .any, .any, .any, .any, .any, .any]) ⟨[], rfl, by walk_at "w"⟩ ?_ ?_
      · rintro pre i post acc hp rfl
        obtain ⟨rfl, hi⟩ := pre_at hp
        rw [List.length_append, List.length_singleton, seenC_snoc]
        have hm := hps _ (List.mem_of_getElem? (lampAtF_get hi))
        have hln := seenC_len s ps cols t pre.length
        generalize seenC s ps cols t pre.length = acc at *
        have hmem := hk2 (seatC s ps pre.length)
        generalize seatC s ps pre.length = c at *
        unfold seenOne
        generalize lampAtF ps pre.length = l at *
        obtain ⟨lx, lz, lsh, lw⟩ := l
        show GS K _ (.dat (.tuple [.tuple [.int lx, .int lz, lsh, .int lw], cD c])) _ _
        walk_at "b"
        refine .dic rfl (key_c kds c) ?_
        rw [hmem]
        refine ⟨_, rfl, ?_⟩
        by_cases hc : c ∈ cols
        · rw [decide_eq_true hc, if_pos hc]
          refine Br.t ?_
          walk_at "b"
          refine ⟨lsh, t, rfl, hm.2.1, ht, ?_⟩
          walk_at "b"
          walk_at "w"
        · rw [decide_eq_false hc, if_neg hc, List.append_nil]
          refine Br.f ?_
          walk_at "b"
          walk_at "w"
      · rintro acc rfl
        rw [List.length_range]
        walk_at "b"
        exact ⟨rfl, hk⟩
theorem ok_law (T : Tp K mg) (G__law_bag : FnG P w K mg base CX0 1 T.f__law_bag T.fd__law_bag ["_law_script"] (spOf K sp_bag)) (G__law_take : FnG P w K mg base CX0 1 T.f__law_take T.fd__law_take ["_law_bag_here", "_law_many"] (spOf K sp_take)) (G__law_some : FnG P w K mg base CX0 2 T.f__law_some T.fd__law_some ["_law_bag_here", "_law_things"] (spOf K sp_some)) (G__law_mixed : FnG P w K mg base CX0 2 T.f__law_mixed T.fd__law_mixed ["_law_bag_here", "_law_things"] (spOf K sp_mixed)) (G__law_alike : FnG P w K mg base CX0 1 T.f__law_alike T.fd__law_alike ["_law_found", "_law_due"] (spOf K sp_alike)) (G__law_dot : FnG P w K mg base CX0 2 T.f__law_dot T.fd__law_dot ["_law_bag_here", "_law_wide"] (spOf K sp_dotF)) (G__law_close_picture : FnG P w K mg base CX0 4 T.f__law_close_picture T.fd__law_close_picture ["_law_bag_here"] (spOf K sp_picF)) (G__law_seats : FnG P w K mg base CX0 2 T.f__law_seats T.fd__law_seats ["_law_picture", "_law_spacing"] (spOf K sp_lseatsF)) (G__law_fame : FnG P w K mg base CX0 5 T.f__law_fame T.fd__law_fame ["_law_picture"] (spOf K sp_fameF)) (G_fame : FnG P w K mg base CX0 1 T.f_fame T.fd_fame ["picture"] (spOf K sp_fameF)) (G_seats_of : FnG P w K mg base CX0 2 T.f_seats_of T.fd_seats_of ["picture", "spacing"] (spOf K sp_seats)) (G_goals_of : FnG P w K mg base CX0 3 T.f_goals_of T.fd_goals_of ["picture", "spacing", "many"] (spOf K sp_goalsF)) (G_dark_of : FnG P w K mg base CX0 2 T.f_dark_of T.fd_dark_of ["picture", "many"] (spOf K sp_darkF)) (G_seen_from : FnG P w K mg base CX0 3 T.f_seen_from T.fd_seen_from ["picture", "spacing", "columns", "tick"] (spOf K sp_seenF)) : FnG P w K mg base CX0 9 T.f_law T.fd_law ["_law_script"] (spOf K sp_law) := by
  refine fn_ok T.F_law sc_law (fun rs k h => ?_) fun cdv A outer s H E rs k hg hr h => ?_
  · obtain ⟨ns, rfl, _⟩ := h
    rfl
  · obtain ⟨ns, rfl, hl0, hk⟩ := h
    refine ⟨_, (pss_cons (ps_set (i := 1) sc_law.nd rfl (.inr rfl) (pe_g G__law_bag hg (hr.mono (by decide)) T.m__law_bag T.F__law_bag.kp T.b__law_bag .nil pass0 (pa_cons (pv 0) pa_nil)))
        (pss_cons (ps_for PassesOwn.never rfl (pi_range1 (by rfl) T.z_range (pa_cons pe_int pa_nil)) (pg_name (i := 2) sc_law.nd rfl (.inl rfl)) (pss_cons (ps_asg (pe_tup (pa_cons (pe_frz (pe_g G__law_close_picture hg (hr.mono (by decide)) T.m__law_close_picture T.F__law_close_picture.kp T.b__law_close_picture .nil pass0 (pa_cons (pv 1) pa_nil))) (pa_cons (pe_frz (pe_g G__law_some hg (hr.mono (by decide)) T.m__law_some T.F__law_some.kp T.b__law_some .nil pass0 (pa_cons (pv 1) (pa_cons (pe_lst (pa_cons pe_int (pa_cons pe_int (pa_cons pe_int (pa_cons pe_int pa_nil))))) pa_nil)))) pa_nil))) (qTup K 2 (pgs_cons (pg_name (i := 3) sc_law.nd rfl (.inr rfl)) (pgs_cons (pg_name (i := 4) sc_law.nd rfl (.inl rfl)) pgs_nil))))
        (pss_cons (ps_asg (pe_tup (pa_cons (pe_frz (pe_g G__law_seats hg (hr.mono (by decide)) T.m__law_seats T.F__law_seats.kp T.b__law_seats .nil pass0 (pa_cons (pv 3) (pa_cons (pv 4) pa_nil)))) (pa_cons (pe_frz (pe_g G__law_fame hg (hr.mono (by decide)) T.m__law_fame T.F__law_fame.kp T.b__law_fame .nil pass0 (pa_cons (pv 3) pa_nil))) (pa_cons (pe_callB (qRepr K hg (hu64 hr)) (by rfl) T.z_repr (by decide +kernel) (pa_cons (pv 3) pa_nil)) pa_nil)))) (qTup K 3 (pgs_cons (pg_name (i := 5) sc_law.nd rfl (.inr rfl)) (pgs_cons (pg_name (i := 6) sc_law.nd rfl (.inl rfl)) (pgs_cons (pg_name (i := 7) sc_law.nd rfl (.inl rfl)) pgs_nil)))))
        (pss_cons (ps_if (pt_not (qTruth K (pe_g G__law_alike hg (hr.mono (by decide)) T.m__law_alike T.F__law_alike.kp T.b__law_alike .nil pass0 (pa_cons (pe_lst (pa_cons (pe_frz (pe_g G_fame hg (hr.mono (by decide)) T.m_fame T.F_fame.kp T.b_fame .nil pass0 (pa_cons (pv 3) pa_nil))) (pa_cons (pe_frz (pe_g G_seats_of hg (hr.mono (by decide)) T.m_seats_of T.F_seats_of.kp T.b_seats_of .nil pass0 (pa_cons (pv 3) (pa_cons (pv 4) pa_nil)))) pa_nil))) (pa_cons (pe_lst (pa_cons (pv 6) (pa_cons (pv 5) pa_nil))) pa_nil))) (fun _ => rfl))) (pss_one (ps_ret pe_bl)) pss_nil)
        (pss_cons (ps_set (i := 8) sc_law.nd rfl (.inl rfl) pe_non)
        (pss_cons (ps_for PassesOwn.never rfl (pi_range1 (by rfl) T.z_range (pa_cons (pe_op (qAdd K) (pe_callB (qLen K) (by rfl) T.z_len (by decide +kernel) (pa_cons (pv 3) pa_nil)) pe_int) pa_nil)) (pg_name (i := 9) sc_law.nd rfl (.inl rfl)) (pss_cons (ps_asg (pe_tup (pa_cons (pe_frz (pe_g G_goals_of hg (hr.mono (by decide)) T.m_goals_of T.F_goals_of.kp T.b_goals_of .nil pass0 (pa_cons (pv 3) (pa_cons (pv 4) (pa_cons (pv 9) pa_nil))))) (pa_cons (pe_frz (pe_g G_dark_of hg (hr.mono (by decide)) T.m_dark_of T.F_dark_of.kp T.b_dark_of .nil pass0 (pa_cons (pv 3) (pa_cons (pv 9) pa_nil)))) pa_nil))) (qTup K 2 (pgs_cons (pg_name (i := 10) sc_law.nd rfl (.inl rfl)) (pgs_cons (pg_name (i := 11) sc_law.nd rfl (.inr rfl)) pgs_nil))))
        (pss_cons (ps_set (i := 12) sc_law.nd rfl (.inl rfl) (pe_lst (pa_cons (pe_callTy (qTuple K) (by rfl) T.z_tuple (by decide +kernel) (pa_cons (pe_lc (own := [("_law_at", 19)]) rfl sc_law.nd (qSeq K (pe_slice (qSl K) (pv 6) po_none (po_some (pv 9)))) (blkOk_by (N := ["_law_script", "_law_bag_here", "_law_turn", "_law_picture", "_law_spacing", "_law_seats_here", "_law_order", "_law_said", "_law_before", "_law_many", "_law_goals", "_law_dark", "_law_due", "_law_lit", "_law_stand", "_law_tick", "_law_told", "_law_lamp", "_law_seat", "_law_at", "_law_place", "_law_one"]) (sc := defScope s_law) (by decide +kernel)) (fun _ _ _ _ _ => (pg_name (i := 19) sc_law.nd rfl (.inl rfl))) (fun _ _ _ _ _ => pts_nil) (fun _ _ _ _ _ => (pe_ix (qIxA K (hu1 hr)) (pv 5) (pv 19) (fun _ _ => rfl)))) pa_nil)) (pa_cons (pe_callTy (qTuple K) (by rfl) T.z_tuple (by decide +kernel) (pa_cons (pe_callB (qSortD K (hu64 hr)) (by rfl) T.z_sorted (by decide +kernel) (pa_cons (pe_slice (qSl K) (pv 6) (po_some (pv 9)) po_none) pa_nil)) pa_nil)) pa_nil))))
        (pss_cons (ps_if (pt_not (qTruth K (pe_g G__law_alike hg (hr.mono (by decide)) T.m__law_alike T.F__law_alike.kp T.b__law_alike .nil pass0 (pa_cons (pe_lst (pa_cons (pv 10) (pa_cons (pv 11) pa_nil))) (pa_cons (pv 12) pa_nil))) (fun _ => rfl))) (pss_one (ps_ret pe_bl)) pss_nil)
        (pss_cons (ps_set (i := 13) sc_law.nd rfl (.inr rfl) (pe_lc (own := [("_law_at", 19)]) rfl sc_law.nd (pi_range1 (by rfl) T.z_range (pa_cons (pe_callB (qLen K) (by rfl) T.z_len (by decide +kernel) (pa_cons (pv 3) pa_nil)) pa_nil)) (blkOk_by (N := ["_law_script", "_law_bag_here", "_law_turn", "_law_picture", "_law_spacing", "_law_seats_here", "_law_order", "_law_said", "_law_before", "_law_many", "_law_goals", "_law_dark", "_law_due", "_law_lit", "_law_stand", "_law_tick", "_law_told", "_law_lamp", "_law_seat", "_law_at", "_law_place", "_law_one"]) (sc := defScope s_law) (by decide +kernel)) (fun _ _ _ _ _ => (pg_name (i := 19) sc_law.nd rfl (.inl rfl))) (fun _ _ _ _ _ => (pts_one (pt_cmpR (qNotInA K (hu65 hr)) (pv 19) (pv 11) (by with_unfolding_all rfl)))) (fun _ _ _ _ _ => (pv 19))))
        (pss_cons (ps_if (pt_cmpR (qNeA K (hu64 hr)) (pe_lc (own := [("_law_at", 19)]) rfl sc_law.nd (qSeq K (pv 11)) (blkOk_by (N := ["_law_script", "_law_bag_here", "_law_turn", "_law_picture", "_law_spacing", "_law_seats_here", "_law_order", "_law_said", "_law_before", "_law_many", "_law_goals", "_law_dark", "_law_due", "_law_lit", "_law_stand", "_law_tick", "_law_told", "_law_lamp", "_law_seat", "_law_at", "_law_place", "_law_one"]) (sc := defScope s_law) (by decide +kernel)) (fun _ _ _ _ _ => (pg_name (i := 19) sc_law.nd rfl (.inr rfl))) (fun _ _ _ _ _ => (pts_one (pt_cmpR (qNeA K (hu64 hr)) (pe_lc (own := [("_law_one", 21)]) rfl sc_law.nd (qSeq K (pv 13)) (blkOk_by (N := ["_law_script", "_law_bag_here", "_law_turn", "_law_picture", "_law_spacing", "_law_seats_here", "_law_order", "_law_said", "_law_before", "_law_many", "_law_goals", "_law_dark", "_law_due", "_law_lit", "_law_stand", "_law_tick", "_law_told", "_law_lamp", "_law_seat", "_law_at", "_law_place", "_law_one"]) (sc := { kind := PySem.ScopeKind.function, names := [(PySem.Str.ofString ".0", PySem.NameKind.local), (PySem.Str.ofString "_law_at", PySem.NameKind.cell), (PySem.Str.ofString "_law_lit", PySem.NameKind.cell), (PySem.Str.ofString "_law_picture", PySem.NameKind.cell)], isGenerator := false, isCoroutine := false, more := [] : PySem.Scope }) (by decide +kernel)) (fun _ _ _ _ _ => (pg_name (i := 21) sc_law.nd rfl (.inl rfl))) (fun _ _ _ _ _ => (pts_one (pt_cmpR (qLt K (hu0 hr)) (pe_ix (qIxA K (hu1 hr)) (pe_ix (qIxA K (hu1 hr)) (pv 3) (pv 21) (fun _ _ => rfl)) pe_int (fun _ _ => rfl)) (pe_ix (qIxA K (hu1 hr)) (pe_ix (qIxA K (hu1 hr)) (pv 3) (pv 19) (fun _ _ => rfl)) pe_int (fun _ _ => rfl)) (nomark _)))) (fun _ _ _ _ _ => pe_int)) (pe_lst pa_nil) (nomark _)))) (fun _ _ _ _ _ => pe_int)) (pe_lst pa_nil) (nomark _)) (pss_one (ps_ret pe_bl)) pss_nil)
        (pss_cons (ps_if (PW.pt (pw_and (pt_cmpR oNotNo (pv 8) pe_non (nomark _)) (pw_and1 (pt_cmpR (qNeA K (hu64 hr)) (pe_op oSub (pe_callB (qLen K) (by rfl) T.z_len (by decide +kernel) (pa_cons (pv 8) pa_nil)) (pe_callB (qLen K) (by rfl) T.z_len (by decide +kernel) (pa_cons (pv 11) pa_nil))) (pe_callTy cInt (by rfl) T.z_int (by decide +kernel) (pa_cons (pe_cmpR oLe (pv 9) (pe_callB (qLen K) (by rfl) T.z_len (by decide +kernel) (pa_cons (pv 3) pa_nil)) (nomark _)) pa_nil)) (nomark _))))) (pss_one (ps_ret pe_bl)) pss_nil)
        (pss_one (ps_set (i := 8) sc_law.nd rfl (.inl rfl) (pv 11))))))))))
        (pss_cons (ps_set (i := 14) sc_law.nd rfl (.inr rfl) (pe_op (qAdd K) (pe_lc (own := [("_law_seat", 18)]) rfl sc_law.nd (qSeq K (pv 5)) (blkOk_by (N := ["_law_script", "_law_bag_here", "_law_turn", "_law_picture", "_law_spacing", "_law_seats_here", "_law_order", "_law_said", "_law_before", "_law_many", "_law_goals", "_law_dark", "_law_due", "_law_lit", "_law_stand", "_law_tick", "_law_told", "_law_lamp", "_law_seat", "_law_at", "_law_place", "_law_one"]) (sc := defScope s_law) (by decide +kernel)) (fun _ _ _ _ _ => (pg_name (i := 18) sc_law.nd rfl (.inl rfl))) (fun _ _ _ _ _ => (pts_one (pt_cmpR (qEqA K (hu64 hr)) (pe_g G__law_take hg (hr.mono (by decide)) T.m__law_take T.F__law_take.kp T.b__law_take .nil pass0 (pa_cons (pv 1) (pa_cons pe_int pa_nil))) pe_int (nomark _)))) (fun _ _ _ _ _ => (pv 18))) (pe_lc (own := [("_law_place", 20)]) rfl sc_law.nd (pi_range1 (by rfl) T.z_range (pa_cons pe_int pa_nil)) (blkOk_by (N := ["_law_script", "_law_bag_here", "_law_turn", "_law_picture", "_law_spacing", "_law_seats_here", "_law_order", "_law_said", "_law_before", "_law_many", "_law_goals", "_law_dark", "_law_due", "_law_lit", "_law_stand", "_law_tick", "_law_told", "_law_lamp", "_law_seat", "_law_at", "_law_place", "_law_one"]) (sc := defScope s_law) (by decide +kernel)) (fun _ _ _ _ _ => (pg_name (i := 20) sc_law.nd rfl (.inl rfl))) (fun _ _ _ _ _ => pts_nil) (fun _ _ _ _ _ => (pe_frz (pe_g G__law_dot hg (hr.mono (by decide)) T.m__law_dot T.F__law_dot.kp T.b__law_dot .nil pass0 (pa_cons (pv 1) (pa_cons pe_int pa_nil))))))))
        (pss_cons (ps_asg (pe_tup (pa_cons (pe_frz (pe_g G__law_mixed hg (hr.mono (by decide)) T.m__law_mixed T.F__law_mixed.kp T.b__law_mixed .nil pass0 (pa_cons (pv 1) (pa_cons (pv 14) pa_nil)))) (pa_cons (pe_frz (pe_g G__law_some hg (hr.mono (by decide)) T.m__law_some T.F__law_some.kp T.b__law_some .nil pass0 (pa_cons (pv 1) (pa_cons (pe_lst (pa_cons pe_int (pa_cons pe_int (pa_cons pe_int (pa_cons pe_int pa_nil))))) pa_nil)))) pa_nil))) (qTup K 2 (pgs_cons (pg_name (i := 14) sc_law.nd rfl (.inr rfl)) (pgs_cons (pg_name (i := 15) sc_law.nd rfl (.inr rfl)) pgs_nil))))
        (pss_cons (ps_setLc (i := 12) (own := [("_law_lamp", 17), ("_law_seat", 18)]) rfl sc_law.nd rfl rfl (sw_true rfl rfl rfl (by decide +kernel)) (qZip K T.z_zip (pa_cons (pv 3) (pa_cons (pv 5) pa_nil))) (blkOk_by (N := ["_law_script", "_law_bag_here", "_law_turn", "_law_picture", "_law_spacing", "_law_seats_here", "_law_order", "_law_said", "_law_before", "_law_many", "_law_goals", "_law_dark", "_law_due", "_law_lit", "_law_stand", "_law_tick", "_law_told", "_law_lamp", "_law_seat", "_law_at", "_law_place", "_law_one"]) (sc := defScope s_law) (by decide +kernel)) (fun _ _ _ _ _ => (qTup K 2 (pgs_cons (pg_name (i := 17) sc_law.nd rfl (.inl rfl)) (pgs_cons (pg_name (i := 18) sc_law.nd rfl (.inl rfl)) pgs_nil)))) (fun _ _ _ _ _ => (pts_one (pt_cmpR (qInA K (hu65 hr)) (pv 18) (pv 14) (by with_unfolding_all rfl)))) (fun _ _ _ _ _ => (pe_frz (pe_op (qAdd K) (pe_slice (qSl K) (pv 17) po_none (po_some pe_int)) (pe_tup (pa_cons (pe_ix (qIxA K (hu1 hr)) (pe_ix (qIxA K (hu1 hr)) (pv 17) pe_int (fun _ _ => rfl)) (pe_op oMod (pv 15) (pe_callB (qLen K) (by rfl) T.z_len (by decide +kernel) (pa_cons (pe_ix (qIxA K (hu1 hr)) (pv 17) pe_int (fun _ _ => rfl)) pa_nil))) (fun _ _ => rfl)) pa_nil))))))
        (pss_cons (ps_set (i := 16) sc_law.nd rfl (.inl rfl) (pe_lst (pa_cons (pe_frz (pe_g G_seen_from hg (hr.mono (by decide)) T.m_seen_from T.F_seen_from.kp T.b_seen_from .nil pass0 (pa_cons (pv 3) (pa_cons (pv 4) (pa_cons (pv 14) (pa_cons (pv 15) pa_nil)))))) (pa_cons (pe_frz (pe_g G_seen_from hg (hr.mono (by decide)) T.m_seen_from T.F_seen_from.kp T.b_seen_from .nil pass0 (pa_cons (pv 3) (pa_cons (pv 4) (pa_cons (pe_callTy (qTuple K) (by rfl) T.z_tuple (by decide +kernel) (pa_cons (pv 14) pa_nil)) (pa_cons (pv 15) pa_nil)))))) pa_nil))))
        (pss_cons (ps_if (pt_not (qTruth K (pe_g G__law_alike hg (hr.mono (by decide)) T.m__law_alike T.F__law_alike.kp T.b__law_alike .nil pass0 (pa_cons (pe_op (qAdd K) (pv 16) (pe_lst (pa_cons (pe_frz (pe_g G_seen_from hg (hr.mono (by decide)) T.m_seen_from T.F_seen_from.kp T.b_seen_from .nil pass0 (pa_cons (pv 3) (pa_cons (pv 4) (pa_cons (pe_lst pa_nil) (pa_cons (pv 15) pa_nil)))))) pa_nil))) (pa_cons (pe_lst (pa_cons (pe_callTy (qTuple K) (by rfl) T.z_tuple (by decide +kernel) (pa_cons (pv 12) pa_nil)) (pa_cons (pe_callTy (qTuple K) (by rfl) T.z_tuple (by decide +kernel) (pa_cons (pv 12) pa_nil)) (pa_cons (pe_tup pa_nil) pa_nil)))) pa_nil))) (fun _ => rfl))) (pss_one (ps_ret pe_bl)) pss_nil)
        (pss_one (ps_if (pt_cmpR (qNeA K (hu64 hr)) (pe_callB (qRepr K hg (hu64 hr)) (by rfl) T.z_repr (by decide +kernel) (pa_cons (pv 3) pa_nil)) (pv 7) (nomark _)) (pss_one (ps_ret pe_bl)) pss_nil)))))))))))))
        (pss_one (ps_ret pe_bl)))), ?_⟩
    show SD K _ _ [.lst (ns.map .int), .any, .any, .any, .any, .any, .any, .any, .any, .any, .any, .any, .any, .any, .any, .any, .any, .any, .any, .any, .any, .any]
    walk_at "b"
    refine ⟨hl0, ?_⟩
    walk_at "b"
    refine ⟨by decide, by decide, ?_⟩
    refine forp_rg 0 _ (fun _ (_ : Unit) => True) (fun _ => [.any, .bag, .any, .any, .any, .any, .any, .any, .any, .any, .any, .any, .any, .any, .any, .any, .any, .any, .any, .any, .any, .any]) ⟨(), trivial, by walk_at "w"⟩ ?_ ?_
    · intro t0 _ _ _
      refine gs_name ?_
      dsimp only [List.set, sto]
      refine sd_mid (fun δ' => ∃ (ps : List Lamp) (s : Int), (ps.length ≤ 14 ∧ Asc ps ∧ (∀ l ∈ ps, LpD l) ∧ 0 < s ∧ s ≤ 5) ∧ Wk δ' [.any, .bag, .any, .dat (.tuple (ps.map lampD)), .dat (.int s), .any, .any, .any, .any, .any, .any, .any, .any, .any, .any, .any, .any, .any, .any, .any, .any, .any]) ?_ ?_
      · walk_at "b"
        refine ⟨rfl, fun qs q1 q2 q3 => ?_⟩
        walk_at "b"
        refine some_l (fun d => ∃ n : Int, d = .int n ∧ 0 < n ∧ n ≤ 5) (fun d hd => ?_) ⟨by decide, by decide⟩ fun d hd => ?_
        · simp only [List.mem_cons, List.not_mem_nil, or_false] at hd
          rcases hd with rfl | rfl | rfl | rfl <;> exact ⟨_, rfl, by decide, by decide⟩
        obtain ⟨n, rfl, n0, n1⟩ := hd
        walk_at "b"
        exact ⟨qs, n, ⟨q1, q2, q3, n0, n1⟩, by walk_at "w"⟩
      rintro δ' ⟨ps, s, ⟨p1, p2, p3, s0, s1⟩, w⟩
      refine sd_wk w ?_
      clear w
      have tl := (small_pic p1 p3).tells (by decide) (by decide)
      have nr := seat_nr (s := s) (ps := ps) ⟨by omega, by omega⟩ p1 p3
      have sl := seatsC_len s ps
      refine sd_mid (fun δ' => Wk δ' [.any, .bag, .any, .dat (.tuple (ps.map lampD)), .dat (.int s), .dat (.tuple ((seatsC s ps).map cD)), .dat (.tuple ((fameI ps).map natD)), .dat (.str (PyData.tuple (ps.map lampD)).shown), .any, .any, .any, .any, .any, .any, .any, .any, .any, .any, .any, .any, .any, .any]) ?_ ?_
      · walk_at "b"
        refine ⟨ps, s, rfl, by omega, ⟨by omega, by omega⟩, p2.up, ?_⟩
        walk_at "b"
        refine ⟨by omega, ?_⟩
        walk_at "b"
        refine .mk rfl tl ?_
        walk_at "b"
        walk_at "w"
      intro δ' w
      refine sd_wk w ?_
      clear w
      refine sd_mid (fun δ' => Wk δ' [.any, .bag, .any, .dat (.tuple (ps.map lampD)), .dat (.int s), .dat (.tuple ((seatsC s ps).map cD)), .dat (.tuple ((fameI ps).map natD)), .dat (.str (PyData.tuple (ps.map lampD)).shown), .any, .any, .any, .any, .any, .any, .any, .any, .any, .any, .any, .any, .any, .any]) ?_ ?_
      · walk_at "b"
        refine ⟨by omega, ?_⟩
        walk_at "b"
        refine ⟨ps, s, rfl, by omega, ⟨by omega, by omega⟩, ?_⟩
        walk_at "b"
        refine ⟨_, _, _, rfl, .bor, .bor, small2 (small_nats (by rw [fameI_len]; omega) fun i hi => by have := fameI_lt hi; omega) (small_cols (by omega) nr), ?_⟩
        walk_at "b"
        refine Br.f ?_
        walk_at "b"
        walk_at "w"
      intro δ' w
      refine sd_wk w ?_
      clear w
      refine sd_mid (fun δ' => Wk δ' [.any, .bag, .any, .dat (.tuple (ps.map lampD)), .dat (.int s), .dat (.tuple ((seatsC s ps).map cD)), .dat (.tuple ((fameI ps).map natD)), .dat (.str (PyData.tuple (ps.map lampD)).shown), .dat .none, .any, .any, .any, .any, .any, .any, .any, .any, .any, .any, .any, .any, .any]) ?_ ?_
      · walk_at "b"
        walk_at "w"
      intro δ' w
      refine sd_wk w ?_
      clear w
      refine sd_mid (fun δ' => Wk δ' [.any, .bag, .any, .dat (.tuple (ps.map lampD)), .dat (.int s), .dat (.tuple ((seatsC s ps).map cD)), .any, .dat (.str (PyData.tuple (ps.map lampD)).shown), .any, .any, .any, .any, .any, .any, .any, .any, .any, .any, .any, .any, .any, .any]) ?_ ?_
      · walk_at "b"
        refine ⟨by omega, by rw [List.length_map]; omega, ?_⟩
        rw [List.length_map, show ((ps.length : Int) + 2).toNat = ps.length + 2 by omega]
        refine forp_rg 0 _ (fun k (b : PyData) => (k = 0 ∧ b = .none) ∨ (0 < k ∧ b = .tuple ((darkC ps (k - 1)).map natD))) (fun b => [.any, .bag, .any, .dat (.tuple (ps.map lampD)), .dat (.int s), .dat (.tuple ((seatsC s ps).map cD)), .dat (.tuple ((fameI ps).map natD)), .dat (.str (PyData.tuple (ps.map lampD)).shown), .dat b, .any, .any, .any, .any, .any, .any, .any, .any, .any, .any, .any, .any, .any]) ⟨.none, .inl ⟨rfl, rfl⟩, by walk_at "w"⟩ ?_ ?_
        · intro m b hm hb
          rw [Int.zero_add]
          refine gs_name ?_
          dsimp only [List.set, sto]
          refine sd_mid (fun δ' => Wk δ' [.any, .bag, .any, .dat (.tuple (ps.map lampD)), .dat (.int s), .dat (.tuple ((seatsC s ps).map cD)), .dat (.tuple ((fameI ps).map natD)), .dat (.str (PyData.tuple (ps.map lampD)).shown), .dat b, .dat (.int (m : Nat)), .dat (.tuple ((goalsC s ps m).map cD)), .dat (.tuple ((darkC ps m).map natD)), .any, .any, .any, .any, .any, .any, .any, .any, .any, .any]) ?_ ?_
          · walk_at "b"
            refine ⟨ps, s, m, rfl, by omega, ⟨by omega, by omega⟩, by omega, ?_⟩
            walk_at "b"
            refine ⟨ps, m, rfl, by omega, by omega, ?_⟩
            walk_at "b"
            walk_at "w"
          intro δ' w
          refine sd_wk w ?_
          clear w
          refine sd_mid (fun δ' => Wk δ' [.any, .bag, .any, .dat (.tuple (ps.map lampD)), .dat (.int s), .dat (.tuple ((seatsC s ps).map cD)), .dat (.tuple ((fameI ps).map natD)), .dat (.str (PyData.tuple (ps.map lampD)).shown), .dat b, .dat (.int (m : Nat)), .dat (.tuple ((goalsC s ps m).map cD)), .dat (.tuple ((darkC ps m).map natD)), .own [.tuple ((goalsC s ps m).map cD), .tuple ((darkC ps m).map natD)], .any, .any, .any, .any, .any, .any, .any, .any, .any]) ?_ ?_
          · walk_at "b"
            rw [cut_takeX, ← List.map_take]
            refine lc_mapc ((fameI ps).take m) natD (fun i => cD (seatC s ps i)) (by rw [List.length_take, fameI_len]; omega) (fun i hi => ?_) ?_
            · have hi2 := fameI_lt (List.mem_of_mem_take hi)
              show GE K _ (.dat (.int (i : Nat))) _ _ _
              walk_at "b"
              refine ixq_tup (ix_at (seat_get hi2)) ?_
              rfl
            have e : ((fameI ps).take m).map (fun i => cD (seatC s ps i)) = (goalsC s ps m).map cD := by
              unfold goalsC
              rw [List.map_map]
              rfl
            rw [e]
            walk_at "b"
            rw [cut_drop, ← List.map_drop]
            refine sort_nats (.inr rfl) ?_
            rw [dark_d]
            walk_at "b"
            walk_at "w"
          intro δ' w
          refine sd_wk w ?_
          clear w
          have gl := goalsC_len s ps m
          have dl := darkC_len ps m
          refine sd_mid (fun δ' => Wk δ' [.any, .bag, .any, .dat (.tuple (ps.map lampD)), .dat (.int s), .dat (.tuple ((seatsC s ps).map cD)), .dat (.tuple ((fameI ps).map natD)), .dat (.str (PyData.tuple (ps.map lampD)).shown), .dat b, .dat (.int (m : Nat)), .any, .dat (.tuple ((darkC ps m).map natD)), .any, .any, .any, .any, .any, .any, .any, .any, .any, .any]) ?_ ?_
          · walk_at "b"
            refine ⟨_, _, _, rfl, .bor, .bor, small2' (small_cols (by omega) fun c hc => nr c (goalsC_sub c hc)) (small_nats (by omega) fun i hi => by have := darkC_lt hi; omega), ?_⟩
            walk_at "b"
            refine Br.f ?_
            walk_at "b"
            walk_at "w"
          intro δ' w
          refine sd_wk w ?_
          clear w
          refine sd_mid (fun δ' => Wk δ' [.any, .bag, .any, .dat (.tuple (ps.map lampD)), .dat (.int s), .dat (.tuple ((seatsC s ps).map cD)), .dat (.tuple ((fameI ps).map natD)), .dat (.str (PyData.tuple (ps.map lampD)).shown), .dat b, .dat (.int (m : Nat)), .any, .dat (.tuple ((darkC ps m).map natD)), .any, .own (((List.range ps.length).filter fun i => decide (i ∉ darkC ps m)).map natD), .any, .any, .any, .any, .any, .any, .any, .any]) ?_ ?_
          · walk_at "b"
            refine ⟨by omega, by rw [List.length_map]; omega, ?_⟩
            rw [List.length_map, Int.toNat_natCast, rg_nat]
            refine lc_filtc (List.range ps.length) (fun i => decide (i ∉ darkC ps m)) natD natD (by rw [List.length_range]; omega) (fun i hi => ?_) ?_
            · show GE K _ (.dat (.int (i : Nat))) _ _ _
              walk_at "b"
              refine InQ.t rfl (by unfold SeqAt.shaped; simp [PyData.canLay0, PyData.depth]) (sh_natT _) ?_
              rw [any_natF]
              refine ⟨_, rfl, by rw [decide_not], fun _ => ?_⟩
              walk_at "b"
              rfl
            walk_at "b"
            walk_at "w"
          intro δ' w
          refine sd_wk w ?_
          clear w
          refine sd_mid (fun δ' => Wk δ' [.any, .bag, .any, .dat (.tuple (ps.map lampD)), .dat (.int s), .dat (.tuple ((seatsC s ps).map cD)), .dat (.tuple ((fameI ps).map natD)), .dat (.str (PyData.tuple (ps.map lampD)).shown), .dat b, .dat (.int (m : Nat)), .any, .dat (.tuple ((darkC ps m).map natD)), .any, .any, .any, .any, .any, .any, .any, .any, .any, .any]) ?_ ?_
          · walk_at "b"
            refine lc_filtc (darkC ps m) (fun _ => false) natD (fun _ => .int 1) (by omega) (fun j hj => ?_) ?_
            · have hj2 := darkC_lt hj
              have e1 := lampAtF_get hj2
              have e2 := wtI_get hj2
              show GE K _ (.dat (.int (j : Nat))) _ _ _
              walk_at "b"
              refine lc_filtc ((List.range ps.length).filter fun i => decide (i ∉ darkC ps m)) (fun _ => false) natD (fun _ => .int 1) (Nat.le_trans (List.length_filter_le ..) (by rw [List.length_range]; omega)) (fun i hi => ?_) ?_
              · obtain ⟨i1, i2⟩ := List.mem_filter.mp hi
                have i1 := List.mem_range.mp i1
                have i2 := of_decide_eq_true i2
                have hw := dark_lit i1 i2 hj
                rw [← wtI_get i1, ← e2] at hw
                have f1 := lampAtF_get i1
                generalize lampAtF ps i = l at *
                generalize lampAtF ps j = l2 at *
                obtain ⟨lx, lz, lsh, lw⟩ := l
                obtain ⟨mx, mz, msh, mw⟩ := l2
                have g1 : (ps.map lampD)[i]? = some (.tuple [.int lx, .int lz, lsh, .int lw]) := by rw [List.getElem?_map, f1]; rfl
                have g2 : (ps.map lampD)[j]? = some (.tuple [.int mx, .int mz, msh, .int mw]) := by rw [List.getElem?_map, e1]; rfl
                show GE K _ (.dat (.int (i : Nat))) _ _ _
                walk_at "b"
                refine ixq_tup (atI_nat g1) ?_
                walk_at "b"
                refine ixq_tup (atI_nat g2) ?_
                walk_at "b"
                exact ⟨decide_eq_false (by dsimp only at hw; omega), fun h => absurd h (by decide)⟩
              walk_at "b"
              rw [filt_no]
              refine neq_nil rfl sh_nil ?_
              exact ⟨_, rfl, rfl, fun h => absurd h (by decide)⟩
            walk_at "b"
            rw [filt_no]
            refine neq_nil rfl sh_nil ?_
            refine ⟨_, rfl, Br.f ?_⟩
            walk_at "b"
            walk_at "w"
          intro δ' w
          refine sd_wk w ?_
          clear w
          have nx : ∀ δ2, Wk δ2 [.any, .bag, .any, .dat (.tuple (ps.map lampD)), .dat (.int s), .dat (.tuple ((seatsC s ps).map cD)), .dat (.tuple ((fameI ps).map natD)), .dat (.str (PyData.tuple (ps.map lampD)).shown), .dat (.tuple ((darkC ps m).map natD)), .any, .any, .any, .any, .any, .any, .any, .any, .any, .any, .any, .any, .any] → ∃ a', ((m + 1 = 0 ∧ a' = PyData.none) ∨ (0 < m + 1 ∧ a' = .tuple ((darkC ps (m + 1 - 1)).map natD))) ∧ Wk δ2 [.any, .bag, .any, .dat (.tuple (ps.map lampD)), .dat (.int s), .dat (.tuple ((seatsC s ps).map cD)), .dat (.tuple ((fameI ps).map natD)), .dat (.str (PyData.tuple (ps.map lampD)).shown), .dat a', .any, .any, .any, .any, .any, .any, .any, .any, .any, .any, .any, .any, .any] := fun δ2 h => ⟨_, .inr ⟨by omega, rfl⟩, h⟩
          rcases hb with ⟨rfl, rfl⟩ | ⟨h0, rfl⟩
          · walk_at "b"
            refine Br.f ?_
            walk_at "b"
            exact nx _ (by walk_at "w")
          · walk_at "b"
            refine Br.t ?_
            walk_at "b"
            rw [decide_eq_true (dark_step ps m h0)]
            refine Br.f ?_
            walk_at "b"
            exact nx _ (by walk_at "w")
        · intro b hb
          walk_at "w"
      intro δ' w
      refine sd_wk w ?_
      clear w
      refine sd_mid (fun δ' => ∃ cs : List Col, (cs.length ≤ 17 ∧ ∀ c ∈ cs, Nr 1000 c) ∧ Wk δ' [.any, .bag, .any, .dat (.tuple (ps.map lampD)), .dat (.int s), .dat (.tuple ((seatsC s ps).map cD)), .any, .dat (.str (PyData.tuple (ps.map lampD)).shown), .any, .any, .any, .any, .any, .any, .own (cs.map cD), .any, .any, .any, .any, .any, .any, .any]) ?_ ?_
      · walk_at "b"
        refine lc_sub (seatsC s ps) cD cD (by omega) (fun c hc => ?_) fun ys hy => ?_
        · walk_at "b"
          intro _
          walk_at "b"
          rfl
        walk_at "b"
        refine ⟨by decide, by decide, ?_⟩
        refine lc_all (fun _ e => ∃ c, e = cD c ∧ Nr 1000 c) (by rw [rgD_len]; decide) (fun i d hd => ?_) fun out ho hp => ?_
        · walk_at "b"
          exact ⟨⟨by decide, by decide⟩, fun c hc => ⟨_, rfl, c, rfl, by unfold Nr at *; omega⟩⟩
        obtain ⟨ds, rfl, hds⟩ := mapsP cD out hp
        rw [rgD_len, List.length_map] at ho
        have yl := hy.length_le
        have ho : ds.length = 3 := ho
        walk_at "b"
        refine AddP.lst rfl rfl (by rw [List.length_map, List.length_map]; unfold sizeLine; omega) ?_
        rw [← List.map_append]
        walk_at "b"
        exact ⟨ys ++ ds, ⟨by rw [List.length_append]; omega, fun c hc => (List.mem_append.mp hc).elim (fun h => nr c (hy.subset h)) (hds c)⟩, by walk_at "w"⟩
      rintro δ' ⟨cs, ⟨c0, c1⟩, w⟩
      refine sd_wk w ?_
      clear w
      refine sd_mid (fun δ' => ∃ (ds : List Col) (t : Nat), (ds.length ≤ 17 ∧ t ≤ 10000) ∧ Wk δ' [.any, .bag, .any, .dat (.tuple (ps.map lampD)), .dat (.int s), .dat (.tuple ((seatsC s ps).map cD)), .any, .dat (.str (PyData.tuple (ps.map lampD)).shown), .any, .any, .any, .any, .any, .any, .dat (.list (ds.map cD)), .dat (.int (t : Nat)), .any, .any, .any, .any, .any, .any]) ?_ ?_
      · walk_at "b"
        refine ⟨_, _, rfl, .inl rfl, by rw [List.length_map]; omega, fun es he => ?_⟩
        obtain ⟨ds, rfl, hp⟩ := perm_cols he
        have dl := hp.length_eq
        walk_at "b"
        refine some_l (fun d => ∃ n : Nat, d = .int (n : Nat) ∧ n ≤ 10000) (fun d hd => ?_) ⟨by decide, by decide⟩ fun d hd => ?_
        · simp only [List.mem_cons, List.not_mem_nil, or_false] at hd
          rcases hd with rfl | rfl | rfl | rfl
          · exact ⟨0, rfl, by decide⟩
          · exact ⟨1, rfl, by decide⟩
          · exact ⟨7, rfl, by decide⟩
          · exact ⟨9999, rfl, by decide⟩
        obtain ⟨t, rfl, ht⟩ := hd
        walk_at "b"
        exact ⟨ds, t, ⟨by omega, ht⟩, by walk_at "w"⟩
      rintro δ' ⟨ds, t, ⟨d0, t0'⟩, w⟩
      refine sd_wk w ?_
      clear w
      refine sd_mid (fun δ' => Wk δ' [.any, .bag, .any, .dat (.tuple (ps.map lampD)), .dat (.int s), .dat (.tuple ((seatsC s ps).map cD)), .any, .dat (.str (PyData.tuple (ps.map lampD)).shown), .any, .any, .any, .any, .own (seenC s ps ds t ps.length), .any, .dat (.list (ds.map cD)), .dat (.int (t : Nat)), .any, .any, .any, .any, .any, .any]) ?_ ?_
      · walk_at "b"
        refine ZipQ.t ?_
        rw [zip_seats]
        refine lc_filtc (List.range ps.length) (fun i => decide (seatC s ps i ∈ ds)) _ (fun i => seenOne (lampAtF ps i) t) (by rw [List.length_range]; omega) (fun i hi => ?_) ?_
        · have hi := List.mem_range.mp hi
          have hm := p3 _ (List.mem_of_getElem? (lampAtF_get hi))
          unfold seenOne
          generalize seatC s ps i = c at *
          generalize lampAtF ps i = l at *
          obtain ⟨lx, lz, lsh, lw⟩ := l
          obtain ⟨sd, rfl, h1, h2, h3⟩ := hm.2.1
          have hlt : t % sd.length < sd.length := Nat.mod_lt _ h1
          have e : sd[t % sd.length]? = some (shAt (.tuple sd) t) := by
            show _ = some (sd.getD (t % sd.length) .none)
            rw [List.getD_eq_getElem?_getD, List.getElem?_eq_getElem hlt]
            rfl
          show GE K _ (.dat (.tuple [.tuple [.int lx, .int lz, .tuple sd, .int lw], cD c])) _ _ _
          walk_at "b"
          refine inq_l rfl rfl (sh_cD c) (sh_colL ds) ?_
          rw [any_col]
          refine ⟨_, rfl, rfl, fun _ => ?_⟩
          walk_at "b"
          rw [show ((t : Nat) : Int) % ((sd.length : Nat) : Int) = ((t % sd.length : Nat) : Int) from (Int.natCast_emod ..).symm]
          refine ixq_tup (atI_nat e) ?_
          walk_at "b"
          refine AddP.tup (by rw [show cutD [PyData.int lx, .int lz, .tuple sd, .int lw] none (some 2) = [.int lx, .int lz] from cut_takeX _ 2]; show 2 + 1 ≤ sizeLine; decide) ?_
          rw [show cutD [PyData.int lx, .int lz, .tuple sd, .int lw] none (some 2) = [.int lx, .int lz] from cut_takeX _ 2]
          rfl
        walk_at "b"
        walk_at "w"
      intro δ' w
      refine sd_wk w ?_
      clear w
      refine sd_mid (fun δ' => Wk δ' [.any, .bag, .any, .dat (.tuple (ps.map lampD)), .dat (.int s), .dat (.tuple ((seatsC s ps).map cD)), .any, .dat (.str (PyData.tuple (ps.map lampD)).shown), .any, .any, .any, .any, .own (seenC s ps ds t ps.length), .any, .dat (.list (ds.map cD)), .dat (.int (t : Nat)), .own [.tuple (seenC s ps ds t ps.length), .tuple (seenC s ps ds t ps.length)], .any, .any, .any, .any, .any]) ?_ ?_
      · walk_at "b"
        refine ⟨_, ps, s, ds, t, rfl, .inr (.inr rfl), by omega, by omega, ⟨by omega, by omega⟩, p3, t0', ?_⟩
        walk_at "b"
        refine ⟨_, ps, s, ds, t, rfl, .inr (.inl rfl), by omega, by omega, ⟨by omega, by omega⟩, p3, t0', ?_⟩
        walk_at "b"
        walk_at "w"
      intro δ' w
      refine sd_wk w ?_
      clear w
      refine sd_mid (fun δ' => Wk δ' [.any, .bag, .any, .dat (.tuple (ps.map lampD)), .any, .any, .any, .dat (.str (PyData.tuple (ps.map lampD)).shown), .any, .any, .any, .any, .any, .any, .any, .any, .any, .any, .any, .any, .any, .any]) ?_ ?_
      · walk_at "b"
        refine ⟨.bor [], ps, s, [], t, rfl, .inl rfl, by decide, by omega, ⟨by omega, by omega⟩, p3, t0', ?_⟩
        rw [seenC_nil]
        walk_at "b"
        refine ⟨_, _, _, rfl, .bor, .bor, small3 (small_seen p1 p3) (small_seen p1 p3) ((small_tup (L := 1) (D := 0) 0 (Nat.le_refl _) fun d hd => absurd hd (by simp)).mono (by decide) (by decide)), ?_⟩
        walk_at "b"
        refine Br.f ?_
        walk_at "b"
        walk_at "w"
      intro δ' w
      refine sd_wk w ?_
      clear w
      walk_at "b"
      refine .mk rfl tl ?_
      walk_at "b"
      rw [decide_eq_true rfl]
      refine Br.f ?_
      walk_at "b"
      exact ⟨(), trivial, by walk_at "w"⟩
    · intro _ _
      walk_at "b"
      exact ⟨rfl, hk⟩
end
section
theorem all_mk {l : PySem.W.OpenLaw} {w : World} {K : PySem.W.Frag} {h : Heap} {mg : Str → Option Value} {fa : Addr} (X : K.In h) (G : h.Ns mainGlobals mg) (hfa : mg "law" = some (.ref fa))
    {od_shade_at an_shade_at : Option Addr} {sl_shade_at : Array (Option Value)} {oc_shade_at kV_shade_at dc_shade_at pm_shade_at cd_shade_at ct_shade_at : Value} {f_shade_at : Addr}
    {od_rows_of an_rows_of : Option Addr} {sl_rows_of : Array (Option Value)} {oc_rows_of kV_rows_of dc_rows_of pm_rows_of cd_rows_of ct_rows_of : Value} {f_rows_of : Addr}
    {od_seats_of an_seats_of : Option Addr} {sl_seats_of : Array (Option Value)} {oc_seats_of kV_seats_of dc_seats_of pm_seats_of cd_seats_of ct_seats_of : Value} {f_seats_of : Addr}
    {od_fame an_fame : Option Addr} {sl_fame : Array (Option Value)} {oc_fame kV_fame dc_fame pm_fame cd_fame ct_fame : Value} {f_fame : Addr}
    {od_goals_of an_goals_of : Option Addr} {sl_goals_of : Array (Option Value)} {oc_goals_of kV_goals_of dc_goals_of pm_goals_of cd_goals_of ct_goals_of : Value} {f_goals_of : Addr}
    {od_dark_of an_dark_of : Option Addr} {sl_dark_of : Array (Option Value)} {oc_dark_of kV_dark_of dc_dark_of pm_dark_of cd_dark_of ct_dark_of : Value} {f_dark_of : Addr}
    {od_seen_from an_seen_from : Option Addr} {sl_seen_from : Array (Option Value)} {oc_seen_from kV_seen_from dc_seen_from pm_seen_from cd_seen_from ct_seen_from : Value} {f_seen_from : Addr}
    {od__law_bag an__law_bag : Option Addr} {sl__law_bag : Array (Option Value)} {oc__law_bag kV__law_bag dc__law_bag pm__law_bag cd__law_bag ct__law_bag : Value} {f__law_bag : Addr}
    {od__law_take an__law_take : Option Addr} {sl__law_take : Array (Option Value)} {oc__law_take kV__law_take dc__law_take pm__law_take cd__law_take ct__law_take : Value} {f__law_take : Addr}
    {od__law_some an__law_some : Option Addr} {sl__law_some : Array (Option Value)} {oc__law_some kV__law_some dc__law_some pm__law_some cd__law_some ct__law_some : Value} {f__law_some : Addr}
    {od__law_mixed an__law_mixed : Option Addr} {sl__law_mixed : Array (Option Value)} {oc__law_mixed kV__law_mixed dc__law_mixed pm__law_mixed cd__law_mixed ct__law_mixed : Value} {f__law_mixed : Addr}
    {od__law_alike an__law_alike : Option Addr} {sl__law_alike : Array (Option Value)} {oc__law_alike kV__law_alike dc__law_alike pm__law_alike cd__law_alike ct__law_alike : Value} {f__law_alike : Addr}
    {od__law_dot an__law_dot : Option Addr} {sl__law_dot : Array (Option Value)} {oc__law_dot kV__law_dot dc__law_dot pm__law_dot cd__law_dot ct__law_dot : Value} {f__law_dot : Addr}
    {od__law_shades an__law_shades : Option Addr} {sl__law_shades : Array (Option Value)} {oc__law_shades kV__law_shades dc__law_shades pm__law_shades cd__law_shades ct__law_shades : Value} {f__law_shades : Addr}
    {od__law_shape an__law_shape : Option Addr} {sl__law_shape : Array (Option Value)} {oc__law_shape kV__law_shape dc__law_shape pm__law_shape cd__law_shape ct__law_shape : Value} {f__law_shape : Addr}
    {od__law_rows an__law_rows : Option Addr} {sl__law_rows : Array (Option Value)} {oc__law_rows kV__law_rows dc__law_rows pm__law_rows cd__law_rows ct__law_rows : Value} {f__law_rows : Addr}
    {od__law_seats an__law_seats : Option Addr} {sl__law_seats : Array (Option Value)} {oc__law_seats kV__law_seats dc__law_seats pm__law_seats cd__law_seats ct__law_seats : Value} {f__law_seats : Addr}
    {od__law_fame an__law_fame : Option Addr} {sl__law_fame : Array (Option Value)} {oc__law_fame kV__law_fame dc__law_fame pm__law_fame cd__law_fame ct__law_fame : Value} {f__law_fame : Addr}
    {od__law_close_picture an__law_close_picture : Option Addr} {sl__law_close_picture : Array (Option Value)} {oc__law_close_picture kV__law_close_picture dc__law_close_picture pm__law_close_picture cd__law_close_picture ct__law_close_picture : Value} {f__law_close_picture : Addr}
    {od_law an_law : Option Addr} {sl_law : Array (Option Value)} {oc_law kV_law dc_law pm_law cd_law ct_law : Value} {f_law : Addr}
    (a_shade_at : PySem.W.nsIn K mainGlobals "shade_at" = some (some (.ref f_shade_at))) (l_shade_at : K.lookup f_shade_at = some ⟨oc_shade_at, od_shade_at, .func (PySem.W.fnOf "shade_at" "shade_at" (defArgs s_shade_at) (defBody s_shade_at) (defScope s_shade_at) .none kV_shade_at dc_shade_at pm_shade_at an_shade_at cd_shade_at ct_shade_at), sl_shade_at⟩) (c_shade_at : PySem.W.codeIn K cd_shade_at "shade_at" = true) (k_shade_at : PySem.W.keepIn K (.ref f_shade_at) = true)
    (a_rows_of : PySem.W.nsIn K mainGlobals "rows_of" = some (some (.ref f_rows_of))) (l_rows_of : K.lookup f_rows_of = some ⟨oc_rows_of, od_rows_of, .func (PySem.W.fnOf "rows_of" "rows_of" (defArgs s_rows_of) (defBody s_rows_of) (defScope s_rows_of) .none kV_rows_of dc_rows_of pm_rows_of an_rows_of cd_rows_of ct_rows_of), sl_rows_of⟩) (c_rows_of : PySem.W.codeIn K cd_rows_of "rows_of" = true) (k_rows_of : PySem.W.keepIn K (.ref f_rows_of) = true)
    (a_seats_of : PySem.W.nsIn K mainGlobals "seats_of" = some (some (.ref f_seats_of))) (l_seats_of : K.lookup f_seats_of = some ⟨oc_seats_of, od_seats_of, .func (PySem.W.fnOf "seats_of" "seats_of" (defArgs s_seats_of) (defBody s_seats_of) (defScope s_seats_of) .none kV_seats_of dc_seats_of pm_seats_of an_seats_of cd_seats_of ct_seats_of), sl_seats_of⟩) (c_seats_of : PySem.W.codeIn K cd_seats_of "seats_of" = true) (k_seats_of : PySem.W.keepIn K (.ref f_seats_of) = true)
    (a_fame : PySem.W.nsIn K mainGlobals "fame" = some (some (.ref f_fame))) (l_fame : K.lookup f_fame = some ⟨oc_fame, od_fame, .func (PySem.W.fnOf "fame" "fame" (defArgs s_fame) (defBody s_fame) (defScope s_fame) .none kV_fame dc_fame pm_fame an_fame cd_fame ct_fame), sl_fame⟩) (c_fame : PySem.W.codeIn K cd_fame "fame" = true) (k_fame : PySem.W.keepIn K (.ref f_fame) = true)
    (a_goals_of : PySem.W.nsIn K mainGlobals "goals_of" = some (some (.ref f_goals_of))) (l_goals_of : K.lookup f_goals_of = some ⟨oc_goals_of, od_goals_of, .func (PySem.W.fnOf "goals_of" "goals_of" (defArgs s_goals_of) (defBody s_goals_of) (defScope s_goals_of) .none kV_goals_of dc_goals_of pm_goals_of an_goals_of cd_goals_of ct_goals_of), sl_goals_of⟩) (c_goals_of : PySem.W.codeIn K cd_goals_of "goals_of" = true) (k_goals_of : PySem.W.keepIn K (.ref f_goals_of) = true)
    (a_dark_of : PySem.W.nsIn K mainGlobals "dark_of" = some (some (.ref f_dark_of))) (l_dark_of : K.lookup f_dark_of = some ⟨oc_dark_of, od_dark_of, .func (PySem.W.fnOf "dark_of" "dark_of" (defArgs s_dark_of) (defBody s_dark_of) (defScope s_dark_of) .none kV_dark_of dc_dark_of pm_dark_of an_dark_of cd_dark_of ct_dark_of), sl_dark_of⟩) (c_dark_of : PySem.W.codeIn K cd_dark_of "dark_of" = true) (k_dark_of : PySem.W.keepIn K (.ref f_dark_of) = true)
    (a_seen_from : PySem.W.nsIn K mainGlobals "seen_from" = some (some (.ref f_seen_from))) (l_seen_from : K.lookup f_seen_from = some ⟨oc_seen_from, od_seen_from, .func (PySem.W.fnOf "seen_from" "seen_from" (defArgs s_seen_from) (defBody s_seen_from) (defScope s_seen_from) .none kV_seen_from dc_seen_from pm_seen_from an_seen_from cd_seen_from ct_seen_from), sl_seen_from⟩) (c_seen_from : PySem.W.codeIn K cd_seen_from "seen_from" = true) (k_seen_from : PySem.W.keepIn K (.ref f_seen_from) = true)
    (a__law_bag : PySem.W.nsIn K mainGlobals "_law_bag" = some (some (.ref f__law_bag))) (l__law_bag : K.lookup f__law_bag = some ⟨oc__law_bag, od__law_bag, .func (PySem.W.fnOf "_law_bag" "_law_bag" (defArgs s__law_bag) (defBody s__law_bag) (defScope s__law_bag) .none kV__law_bag dc__law_bag pm__law_bag an__law_bag cd__law_bag ct__law_bag), sl__law_bag⟩) (c__law_bag : PySem.W.codeIn K cd__law_bag "_law_bag" = true) (k__law_bag : PySem.W.keepIn K (.ref f__law_bag) = true)
    (a__law_take : PySem.W.nsIn K mainGlobals "_law_take" = some (some (.ref f__law_take))) (l__law_take : K.lookup f__law_take = some ⟨oc__law_take, od__law_take, .func (PySem.W.fnOf "_law_take" "_law_take" (defArgs s__law_take) (defBody s__law_take) (defScope s__law_take) .none kV__law_take dc__law_take pm__law_take an__law_take cd__law_take ct__law_take), sl__law_take⟩) (c__law_take : PySem.W.codeIn K cd__law_take "_law_take" = true) (k__law_take : PySem.W.keepIn K (.ref f__law_take) = true)
    (a__law_some : PySem.W.nsIn K mainGlobals "_law_some" = some (some (.ref f__law_some))) (l__law_some : K.lookup f__law_some = some ⟨oc__law_some, od__law_some, .func (PySem.W.fnOf "_law_some" "_law_some" (defArgs s__law_some) (defBody s__law_some) (defScope s__law_some) .none kV__law_some dc__law_some pm__law_some an__law_some cd__law_some ct__law_some), sl__law_some⟩) (c__law_some : PySem.W.codeIn K cd__law_some "_law_some" = true) (k__law_some : PySem.W.keepIn K (.ref f__law_some) = true)
    (a__law_mixed : PySem.W.nsIn K mainGlobals "_law_mixed" = some (some (.ref f__law_mixed))) (l__law_mixed : K.lookup f__law_mixed = some ⟨oc__law_mixed, od__law_mixed, .func (PySem.W.fnOf "_law_mixed" "_law_mixed" (defArgs s__law_mixed) (defBody s__law_mixed) (defScope s__law_mixed) .none kV__law_mixed dc__law_mixed pm__law_mixed an__law_mixed cd__law_mixed ct__law_mixed), sl__law_mixed⟩) (c__law_mixed : PySem.W.codeIn K cd__law_mixed "_law_mixed" = true) (k__law_mixed : PySem.W.keepIn K (.ref f__law_mixed) = true)
    (a__law_alike : PySem.W.nsIn K mainGlobals "_law_alike" = some (some (.ref f__law_alike))) (l__law_alike : K.lookup f__law_alike = some ⟨oc__law_alike, od__law_alike, .func (PySem.W.fnOf "_law_alike" "_law_alike" (defArgs s__law_alike) (defBody s__law_alike) (defScope s__law_alike) .none kV__law_alike dc__law_alike pm__law_alike an__law_alike cd__law_alike ct__law_alike), sl__law_alike⟩) (c__law_alike : PySem.W.codeIn K cd__law_alike "_law_alike" = true) (k__law_alike : PySem.W.keepIn K (.ref f__law_alike) = true)
    (a__law_dot : PySem.W.nsIn K mainGlobals "_law_dot" = some (some (.ref f__law_dot))) (l__law_dot : K.lookup f__law_dot = some ⟨oc__law_dot, od__law_dot, .func (PySem.W.fnOf "_law_dot" "_law_dot" (defArgs s__law_dot) (defBody s__law_dot) (defScope s__law_dot) .none kV__law_dot dc__law_dot pm__law_dot an__law_dot cd__law_dot ct__law_dot), sl__law_dot⟩) (c__law_dot : PySem.W.codeIn K cd__law_dot "_law_dot" = true) (k__law_dot : PySem.W.keepIn K (.ref f__law_dot) = true)
    (a__law_shades : PySem.W.nsIn K mainGlobals "_law_shades" = some (some (.ref f__law_shades))) (l__law_shades : K.lookup f__law_shades = some ⟨oc__law_shades, od__law_shades, .func (PySem.W.fnOf "_law_shades" "_law_shades" (defArgs s__law_shades) (defBody s__law_shades) (defScope s__law_shades) .none kV__law_shades dc__law_shades pm__law_shades an__law_shades cd__law_shades ct__law_shades), sl__law_shades⟩) (c__law_shades : PySem.W.codeIn K cd__law_shades "_law_shades" = true) (k__law_shades : PySem.W.keepIn K (.ref f__law_shades) = true)
    (a__law_shape : PySem.W.nsIn K mainGlobals "_law_shape" = some (some (.ref f__law_shape))) (l__law_shape : K.lookup f__law_shape = some ⟨oc__law_shape, od__law_shape, .func (PySem.W.fnOf "_law_shape" "_law_shape" (defArgs s__law_shape) (defBody s__law_shape) (defScope s__law_shape) .none kV__law_shape dc__law_shape pm__law_shape an__law_shape cd__law_shape ct__law_shape), sl__law_shape⟩) (c__law_shape : PySem.W.codeIn K cd__law_shape "_law_shape" = true) (k__law_shape : PySem.W.keepIn K (.ref f__law_shape) = true)
    (a__law_rows : PySem.W.nsIn K mainGlobals "_law_rows" = some (some (.ref f__law_rows))) (l__law_rows : K.lookup f__law_rows = some ⟨oc__law_rows, od__law_rows, .func (PySem.W.fnOf "_law_rows" "_law_rows" (defArgs s__law_rows) (defBody s__law_rows) (defScope s__law_rows) .none kV__law_rows dc__law_rows pm__law_rows an__law_rows cd__law_rows ct__law_rows), sl__law_rows⟩) (c__law_rows : PySem.W.codeIn K cd__law_rows "_law_rows" = true) (k__law_rows : PySem.W.keepIn K (.ref f__law_rows) = true)
    (a__law_seats : PySem.W.nsIn K mainGlobals "_law_seats" = some (some (.ref f__law_seats))) (l__law_seats : K.lookup f__law_seats = some ⟨oc__law_seats, od__law_seats, .func (PySem.W.fnOf "_law_seats" "_law_seats" (defArgs s__law_seats) (defBody s__law_seats) (defScope s__law_seats) .none kV__law_seats dc__law_seats pm__law_seats an__law_seats cd__law_seats ct__law_seats), sl__law_seats⟩) (c__law_seats : PySem.W.codeIn K cd__law_seats "_law_seats" = true) (k__law_seats : PySem.W.keepIn K (.ref f__law_seats) = true)
    (a__law_fame : PySem.W.nsIn K mainGlobals "_law_fame" = some (some (.ref f__law_fame))) (l__law_fame : K.lookup f__law_fame = some ⟨oc__law_fame, od__law_fame, .func (PySem.W.fnOf "_law_fame" "_law_fame" (defArgs s__law_fame) (defBody s__law_fame) (defScope s__law_fame) .none kV__law_fame dc__law_fame pm__law_fame an__law_fame cd__law_fame ct__law_fame), sl__law_fame⟩) (c__law_fame : PySem.W.codeIn K cd__law_fame "_law_fame" = true) (k__law_fame : PySem.W.keepIn K (.ref f__law_fame) = true)
    (a__law_close_picture : PySem.W.nsIn K mainGlobals "_law_close_picture" = some (some (.ref f__law_close_picture))) (l__law_close_picture : K.lookup f__law_close_picture = some ⟨oc__law_close_picture, od__law_close_picture, .func (PySem.W.fnOf "_law_close_picture" "_law_close_picture" (defArgs s__law_close_picture) (defBody s__law_close_picture) (defScope s__law_close_picture) .none kV__law_close_picture dc__law_close_picture pm__law_close_picture an__law_close_picture cd__law_close_picture ct__law_close_picture), sl__law_close_picture⟩) (c__law_close_picture : PySem.W.codeIn K cd__law_close_picture "_law_close_picture" = true) (k__law_close_picture : PySem.W.keepIn K (.ref f__law_close_picture) = true)
    (a_law : PySem.W.nsIn K mainGlobals "law" = some (some (.ref f_law))) (l_law : K.lookup f_law = some ⟨oc_law, od_law, .func (PySem.W.fnOf "law" "law" (defArgs s_law) (defBody s_law) (defScope s_law) .none kV_law dc_law pm_law an_law cd_law ct_law), sl_law⟩) (c_law : PySem.W.codeIn K cd_law "law" = true) (k_law : PySem.W.keepIn K (.ref f_law) = true)
    (z_abs : PySem.W.nsIn K mainGlobals "abs" = some none)
    (z_enumerate : PySem.W.nsIn K mainGlobals "enumerate" = some none)
    (z_int : PySem.W.nsIn K mainGlobals "int" = some none)
    (z_len : PySem.W.nsIn K mainGlobals "len" = some none)
    (z_list : PySem.W.nsIn K mainGlobals "list" = some none)
    (z_range : PySem.W.nsIn K mainGlobals "range" = some none)
    (z_repr : PySem.W.nsIn K mainGlobals "repr" = some none)
    (z_set : PySem.W.nsIn K mainGlobals "set" = some none)
    (z_sorted : PySem.W.nsIn K mainGlobals "sorted" = some none)
    (z_tuple : PySem.W.nsIn K mainGlobals "tuple" = some none)
    (z_zip : PySem.W.nsIn K mainGlobals "zip" = some none)
    {mc__law_fame mP__law_fame : Addr} (d__law_fame : cd__law_fame = .ref mc__law_fame) (tm__law_fame : (mP__law_fame, (PyProof.Rows.envOfC "_law_fame" (defScope s__law_fame) 0 0 Value.none).qual ++ "<lambda>") ∈ Dl.LamT.T) (tu__law_fame : ∀ p ∈ Dl.LamT.T, p.1 = mP__law_fame → p.2 = (PyProof.Rows.envOfC "_law_fame" (defScope s__law_fame) 0 0 Value.none).qual ++ "<lambda>")
    (hst : Dl.LamT.st = false) :
    ∃ fd : FuncData, (∀ (s : Shared) (v : Value), BindsTo s fd ⟨[v], []⟩ [("_law_script", v)]) ∧ ∀ base : Heap, K.In base → base.Ns mainGlobals mg → (∀ p ∈ ([(mc__law_fame, mP__law_fame)] : List (Addr × Addr)), LamX.TabB base mg p.1 p.2) → FnG l.prog w K mg base CX0 9 fa fd ["_law_script"] (spOf K sp_law) := by
  have e := hfa.symm.trans (PySem.W.mg_of X G a_law)
  cases e
  have F_shade_at := fun_mk (st := s_shade_at) l_shade_at c_shade_at k_shade_at
  have b_shade_at := F_shade_at.binds (ps := ["shades", "tick"]) fun _ _ _ _ _ _ us hl => match us, hl with | [_, _], _ => rfl
  have F_rows_of := fun_mk (st := s_rows_of) l_rows_of c_rows_of k_rows_of
  have b_rows_of := F_rows_of.binds (ps := ["picture", "spacing"]) fun _ _ _ _ _ _ us hl => match us, hl with | [_, _], _ => rfl
  have F_seats_of := fun_mk (st := s_seats_of) l_seats_of c_seats_of k_seats_of
  have b_seats_of := F_seats_of.binds (ps := ["picture", "spacing"]) fun _ _ _ _ _ _ us hl => match us, hl with | [_, _], _ => rfl
  have F_fame := fun_mk (st := s_fame) l_fame c_fame k_fame
  have b_fame := F_fame.binds (ps := ["picture"]) fun _ _ _ _ _ _ us hl => match us, hl with | [_], _ => rfl
  have F_goals_of := fun_mk (st := s_goals_of) l_goals_of c_goals_of k_goals_of
  have b_goals_of := F_goals_of.binds (ps := ["picture", "spacing", "many"]) fun _ _ _ _ _ _ us hl => match us, hl with | [_, _, _], _ => rfl
  have F_dark_of := fun_mk (st := s_dark_of) l_dark_of c_dark_of k_dark_of
  have b_dark_of := F_dark_of.binds (ps := ["picture", "many"]) fun _ _ _ _ _ _ us hl => match us, hl with | [_, _], _ => rfl
  have F_seen_from := fun_mk (st := s_seen_from) l_seen_from c_seen_from k_seen_from
  have b_seen_from := F_seen_from.binds (ps := ["picture", "spacing", "columns", "tick"]) fun _ _ _ _ _ _ us hl => match us, hl with | [_, _, _, _], _ => rfl
  have F__law_bag := fun_mk (st := s__law_bag) l__law_bag c__law_bag k__law_bag
  have b__law_bag := F__law_bag.binds (ps := ["_law_script"]) fun _ _ _ _ _ _ us hl => match us, hl with | [_], _ => rfl
  have F__law_take := fun_mk (st := s__law_take) l__law_take c__law_take k__law_take
  have b__law_take := F__law_take.binds (ps := ["_law_bag_here", "_law_many"]) fun _ _ _ _ _ _ us hl => match us, hl with | [_, _], _ => rfl
  have F__law_some := fun_mk (st := s__law_some) l__law_some c__law_some k__law_some
  have b__law_some := F__law_some.binds (ps := ["_law_bag_here", "_law_things"]) fun _ _ _ _ _ _ us hl => match us, hl with | [_, _], _ => rfl
  have F__law_mixed := fun_mk (st := s__law_mixed) l__law_mixed c__law_mixed k__law_mixed
  have b__law_mixed := F__law_mixed.binds (ps := ["_law_bag_here", "_law_things"]) fun _ _ _ _ _ _ us hl => match us, hl with | [_, _], _ => rfl
  have F__law_alike := fun_mk (st := s__law_alike) l__law_alike c__law_alike k__law_alike
  have b__law_alike := F__law_alike.binds (ps := ["_law_found", "_law_due"]) fun _ _ _ _ _ _ us hl => match us, hl with | [_, _], _ => rfl
  have F__law_dot := fun_mk (st := s__law_dot) l__law_dot c__law_dot k__law_dot
  have b__law_dot := F__law_dot.binds (ps := ["_law_bag_here", "_law_wide"]) fun _ _ _ _ _ _ us hl => match us, hl with | [_, _], _ => rfl
  have F__law_shades := fun_mk (st := s__law_shades) l__law_shades c__law_shades k__law_shades
  have b__law_shades := F__law_shades.binds (ps := ["_law_bag_here"]) fun _ _ _ _ _ _ us hl => match us, hl with | [_], _ => rfl
  have F__law_shape := fun_mk (st := s__law_shape) l__law_shape c__law_shape k__law_shape
  have b__law_shape := F__law_shape.binds (ps := ["_law_points"]) fun _ _ _ _ _ _ us hl => match us, hl with | [_], _ => rfl
  have F__law_rows := fun_mk (st := s__law_rows) l__law_rows c__law_rows k__law_rows
  have b__law_rows := F__law_rows.binds (ps := ["_law_picture", "_law_spacing"]) fun _ _ _ _ _ _ us hl => match us, hl with | [_, _], _ => rfl
  have F__law_seats := fun_mk (st := s__law_seats) l__law_seats c__law_seats k__law_seats
  have b__law_seats := F__law_seats.binds (ps := ["_law_picture", "_law_spacing"]) fun _ _ _ _ _ _ us hl => match us, hl with | [_, _], _ => rfl
  have F__law_fame := fun_mk (st := s__law_fame) l__law_fame c__law_fame k__law_fame
  have b__law_fame := F__law_fame.binds (ps := ["_law_picture"]) fun _ _ _ _ _ _ us hl => match us, hl with | [_], _ => rfl
  have F__law_close_picture := fun_mk (st := s__law_close_picture) l__law_close_picture c__law_close_picture k__law_close_picture
  have b__law_close_picture := F__law_close_picture.binds (ps := ["_law_bag_here"]) fun _ _ _ _ _ _ us hl => match us, hl with | [_], _ => rfl
  have F_law := fun_mk (st := s_law) l_law c_law k_law
  have b_law := F_law.binds (ps := ["_law_script"]) fun _ _ _ _ _ _ us hl => match us, hl with | [_], _ => rfl
  let T : Tp K mg := {
    st := hst,
    f_shade_at := _, fd_shade_at := _, F_shade_at := F_shade_at, m_shade_at := PySem.W.mg_of X G a_shade_at, b_shade_at := b_shade_at,
    f_rows_of := _, fd_rows_of := _, F_rows_of := F_rows_of, m_rows_of := PySem.W.mg_of X G a_rows_of, b_rows_of := b_rows_of,
    f_seats_of := _, fd_seats_of := _, F_seats_of := F_seats_of, m_seats_of := PySem.W.mg_of X G a_seats_of, b_seats_of := b_seats_of,
    f_fame := _, fd_fame := _, F_fame := F_fame, m_fame := PySem.W.mg_of X G a_fame, b_fame := b_fame,
    f_goals_of := _, fd_goals_of := _, F_goals_of := F_goals_of, m_goals_of := PySem.W.mg_of X G a_goals_of, b_goals_of := b_goals_of,
    f_dark_of := _, fd_dark_of := _, F_dark_of := F_dark_of, m_dark_of := PySem.W.mg_of X G a_dark_of, b_dark_of := b_dark_of,
    f_seen_from := _, fd_seen_from := _, F_seen_from := F_seen_from, m_seen_from := PySem.W.mg_of X G a_seen_from, b_seen_from := b_seen_from,
    f__law_bag := _, fd__law_bag := _, F__law_bag := F__law_bag, m__law_bag := PySem.W.mg_of X G a__law_bag, b__law_bag := b__law_bag,
    f__law_take := _, fd__law_take := _, F__law_take := F__law_take, m__law_take := PySem.W.mg_of X G a__law_take, b__law_take := b__law_take,
    f__law_some := _, fd__law_some := _, F__law_some := F__law_some, m__law_some := PySem.W.mg_of X G a__law_some, b__law_some := b__law_some,
    f__law_mixed := _, fd__law_mixed := _, F__law_mixed := F__law_mixed, m__law_mixed := PySem.W.mg_of X G a__law_mixed, b__law_mixed := b__law_mixed,
    f__law_alike := _, fd__law_alike := _, F__law_alike := F__law_alike, m__law_alike := PySem.W.mg_of X G a__law_alike, b__law_alike := b__law_alike,
    f__law_dot := _, fd__law_dot := _, F__law_dot := F__law_dot, m__law_dot := PySem.W.mg_of X G a__law_dot, b__law_dot := b__law_dot,
    f__law_shades := _, fd__law_shades := _, F__law_shades := F__law_shades, m__law_shades := PySem.W.mg_of X G a__law_shades, b__law_shades := b__law_shades,
    f__law_shape := _, fd__law_shape := _, F__law_shape := F__law_shape, m__law_shape := PySem.W.mg_of X G a__law_shape, b__law_shape := b__law_shape,
    f__law_rows := _, fd__law_rows := _, F__law_rows := F__law_rows, m__law_rows := PySem.W.mg_of X G a__law_rows, b__law_rows := b__law_rows,
    f__law_seats := _, fd__law_seats := _, F__law_seats := F__law_seats, m__law_seats := PySem.W.mg_of X G a__law_seats, b__law_seats := b__law_seats,
    f__law_fame := _, fd__law_fame := _, F__law_fame := F__law_fame, m__law_fame := PySem.W.mg_of X G a__law_fame, b__law_fame := b__law_fame,
    f__law_close_picture := _, fd__law_close_picture := _, F__law_close_picture := F__law_close_picture, m__law_close_picture := PySem.W.mg_of X G a__law_close_picture, b__law_close_picture := b__law_close_picture,
    f_law := _, fd_law := _, F_law := F_law, m_law := PySem.W.mg_of X G a_law, b_law := b_law,
    z_abs := PySem.W.mg_none_of X G z_abs,
    z_enumerate := PySem.W.mg_none_of X G z_enumerate,
    z_int := PySem.W.mg_none_of X G z_int,
    z_len := PySem.W.mg_none_of X G z_len,
    z_list := PySem.W.mg_none_of X G z_list,
    z_range := PySem.W.mg_none_of X G z_range,
    z_repr := PySem.W.mg_none_of X G z_repr,
    z_set := PySem.W.mg_none_of X G z_set,
    z_sorted := PySem.W.mg_none_of X G z_sorted,
    z_tuple := PySem.W.mg_none_of X G z_tuple,
    z_zip := PySem.W.mg_none_of X G z_zip }
  refine ⟨T.fd_law, fun s v => .of_eq rfl, fun base _ _ tb => ?_⟩
  have G__law_bag := ok__law_bag (P := l.prog) (w := w) (base := base) T 
  have G__law_take := ok__law_take (P := l.prog) (w := w) (base := base) T 
  have G__law_some := ok__law_some (P := l.prog) (w := w) (base := base) T G__law_take
  have G__law_mixed := ok__law_mixed (P := l.prog) (w := w) (base := base) T G__law_take
  have G__law_alike := ok__law_alike (P := l.prog) (w := w) (base := base) T 
  have G__law_dot := ok__law_dot (P := l.prog) (w := w) (base := base) T G__law_take
  have G__law_shades := ok__law_shades (P := l.prog) (w := w) (base := base) T G__law_some
  have G__law_shape := ok__law_shape (P := l.prog) (w := w) (base := base) T 
  have G__law_close_picture := ok__law_close_picture (P := l.prog) (w := w) (base := base) T G__law_take G__law_some G__law_shades G__law_shape
  have G__law_rows := ok__law_rows (P := l.prog) (w := w) (base := base) T 
  have G__law_seats := ok__law_seats (P := l.prog) (w := w) (base := base) T G__law_rows
  have G__law_fame := ok__law_fame (P := l.prog) (w := w) (base := base) T ⟨mc__law_fame, mP__law_fame, d__law_fame, tb (mc__law_fame, mP__law_fame) (by simp), tm__law_fame, tu__law_fame⟩ 
  have G_fame := ok_fame (P := l.prog) (w := w) (base := base) T 
  have G_rows_of := ok_rows_of (P := l.prog) (w := w) (base := base) T 
  have G_seats_of := ok_seats_of (P := l.prog) (w := w) (base := base) T G_rows_of
  have G_goals_of := ok_goals_of (P := l.prog) (w := w) (base := base) T G_seats_of G_fame
  have G_dark_of := ok_dark_of (P := l.prog) (w := w) (base := base) T G_fame
  have G_shade_at := ok_shade_at (P := l.prog) (w := w) (base := base) T 
  have G_seen_from := ok_seen_from (P := l.prog) (w := w) (base := base) T G_shade_at G_seats_of
  have G_law := ok_law (P := l.prog) (w := w) (base := base) T G__law_bag G__law_take G__law_some G__law_mixed G__law_alike G__law_dot G__law_close_picture G__law_seats G__law_fame G_fame G_seats_of G_goals_of G_dark_of G_seen_from
  exact G_law
end
end My
open PySem PySem.W PyProof.Rows
set_option maxRecDepth 100000 in
set_option maxHeartbeats 0 in
theorem PySem.Challenge.cw_lampsaloft_k18_fame_and_goals_holds : PySem.Challenge.rw_lampsaloft_k18_fame_and_goals.Holds := by
  w_on; o_law; k_head; (case hw => w_witness2)
  k_fill
  letI : Dl.LamT := ⟨[(117, (PyProof.Rows.envOfC "_law_fame" (L2.defScope My.s__law_fame) 0 0 Value.none).qual ++ "<lambda>")], false⟩
  refine Dl.walk_g (l := PySem.Challenge.rw_lampsaloft_k18_fame_and_goals) (n := 9) (x := "_law_script") (sp := My.sp_law) (cs := [(121, 117)]) rfl rfl ⟨rfl, by decide, by decide⟩ (fun w h Y => PySem.W.km_in_of Y) ?hYT ?nT ?hC ?hTT ?kS ?kI ?F My.law_true
  case hYT => intro w h Y p hp; simp only [List.mem_cons, List.not_mem_nil, or_false] at hp; rcases hp with rfl <;> exact PySem.W.km_tabs_of Y _ (by decide)
  case nT => intro w p hp; simp only [List.mem_cons, List.not_mem_nil, or_false] at hp; rcases hp with rfl <;> kernel_rfl
  case hC => intro w p hp; simp only [List.mem_cons, List.not_mem_nil, or_false] at hp; rcases hp with rfl <;> kernel_rfl
  case hTT =>
      intro p hp
      obtain rfl := List.mem_singleton.mp hp; exact ⟨_, .head _⟩
  case kS => intro w; kernel_rfl
  case kI => kernel_rfl
  case F =>
    intro w mg fa h KX G hmg
    refine' My.all_mk KX G hmg ?a_shade_at ?l_shade_at ?c_shade_at ?k_shade_at ?a_rows_of ?l_rows_of ?c_rows_of ?k_rows_of ?a_seats_of ?l_seats_of ?c_seats_of ?k_seats_of ?a_fame ?l_fame ?c_fame ?k_fame ?a_goals_of ?l_goals_of ?c_goals_of ?k_goals_of ?a_dark_of ?l_dark_of ?c_dark_of ?k_dark_of ?a_seen_from ?l_seen_from ?c_seen_from ?k_seen_from ?a__law_bag ?l__law_bag ?c__law_bag ?k__law_bag ?a__law_take ?l__law_take ?c__law_take ?k__law_take ?a__law_some ?l__law_some ?c__law_some ?k__law_some ?a__law_mixed ?l__law_mixed ?c__law_mixed ?k__law_mixed ?a__law_alike ?l__law_alike ?c__law_alike ?k__law_alike ?a__law_dot ?l__law_dot ?c__law_dot ?k__law_dot ?a__law_shades ?l__law_shades ?c__law_shades ?k__law_shades ?a__law_shape ?l__law_shape ?c__law_shape ?k__law_shape ?a__law_rows ?l__law_rows ?c__law_rows ?k__law_rows ?a__law_seats ?l__law_seats ?c__law_seats ?k__law_seats ?a__law_fame ?l__law_fame ?c__law_fame ?k__law_fame ?a__law_close_picture ?l__law_close_picture ?c__law_close_picture ?k__law_close_picture ?a_law ?l_law ?c_law ?k_law ?z_abs ?z_enumerate ?z_int ?z_len ?z_list ?z_range ?z_repr ?z_set ?z_sorted ?z_tuple ?z_zip ?d__law_fame ?tm__law_fame ?tu__law_fame ?hst
    (case a_shade_at => k_is); (case l_shade_at => k_is); (case c_shade_at => k_is); (case k_shade_at => k_is); (case a_rows_of => k_is); (case l_rows_of => k_is); (case c_rows_of => k_is); (case k_rows_of => k_is); (case a_seats_of => k_is); (case l_seats_of => k_is); (case c_seats_of => k_is); (case k_seats_of => k_is); (case a_fame => k_is); (case l_fame => k_is); (case c_fame => k_is); (case k_fame => k_is); (case a_goals_of => k_is); (case l_goals_of => k_is); (case c_goals_of => k_is); (case k_goals_of => k_is); (case a_dark_of => k_is); (case l_dark_of => k_is); (case c_dark_of => k_is); (case k_dark_of => k_is); (case a_seen_from => k_is); (case l_seen_from => k_is); (case c_seen_from => k_is); (case k_seen_from => k_is); (case a__law_bag => k_is); (case l__law_bag => k_is); (case c__law_bag => k_is); (case k__law_bag => k_is); (case a__law_take => k_is); (case l__law_take => k_is); (case c__law_take => k_is); (case k__law_take => k_is); (case a__law_some => k_is); (case l__law_some => k_is); (case c__law_some => k_is); (case k__law_some => k_is); (case a__law_mixed => k_is); (case l__law_mixed => k_is); (case c__law_mixed => k_is); (case k__law_mixed => k_is); (case a__law_alike => k_is); (case l__law_alike => k_is); (case c__law_alike => k_is); (case k__law_alike => k_is); (case a__law_dot => k_is); (case l__law_dot => k_is); (case c__law_dot => k_is); (case k__law_dot => k_is); (case a__law_shades => k_is); (case l__law_shades => k_is); (case c__law_shades => k_is); (case k__law_shades => k_is); (case a__law_shape => k_is); (case l__law_shape => k_is); (case c__law_shape => k_is); (case k__law_shape => k_is); (case a__law_rows => k_is); (case l__law_rows => k_is); (case c__law_rows => k_is); (case k__law_rows => k_is); (case a__law_seats => k_is); (case l__law_seats => k_is); (case c__law_seats => k_is); (case k__law_seats => k_is); (case a__law_fame => k_is); (case l__law_fame => k_is); (case c__law_fame => k_is); (case k__law_fame => k_is); (case a__law_close_picture => k_is); (case l__law_close_picture => k_is); (case c__law_close_picture => k_is); (case k__law_close_picture => k_is); (case a_law => k_is); (case l_law => k_is); (case c_law => k_is); (case k_law => k_is); (case z_abs => k_is); (case z_enumerate => k_is); (case z_int => k_is); (case z_len => k_is); (case z_list => k_is); (case z_range => k_is); (case z_repr => k_is); (case z_set => k_is); (case z_sorted => k_is); (case z_tuple => k_is); (case z_zip => k_is); (case d__law_fame => rfl); (case tm__law_fame => exact .head _); (case hst => rfl)
    case tu__law_fame =>
      intro p hp e
      obtain rfl := List.mem_singleton.mp hp; rfl
