import PyProof.Rows.All
import HandS.ForMost
import HandS.Wide
import HandS.EndBits
import HandS.TupAny
import HandS.TupMul
import HandS.Deep
import HandS.Conv
import HandS.Zip
import HandS.Walk
import HandS.Gcd
import HandS.Style
import HandS.Flow
import KE.GoesEnum
import KE.GoesMore
import HandS.More
import PyProof.P3Eq
import HandS.IsInst
import Flt.RightSqrt
import KE.KDictZip
import HandS.SortInts
import HandS.TupSets
import PyProof.StrOps2
import HandS.SortRule
import HandS.Star
import HandS.Strs
import PySem.Challenge.RW_lampsaloft_k17_seats_and_columns
set_option Elab.async false
set_option linter.all false
set_option maxRecDepth 100000
set_option maxHeartbeats 0
/-! own layer: abstract data over the hand layer -/
namespace Dl
open PySem PySem.Spec L2

/-! ## what never changes -/
def keeps : HO → Bool
  | .tup _ => true
  | .frz _ _ => true
  | .ext _ => true
  | _ => false
def Per (H H' : Hp) : Prop := ∀ a o, H a = some o → keeps o = true → H' a = some o
theorem Per.refl (H : Hp) : Per H H := fun _ _ h _ => h
theorem Per.trans {A B C : Hp} (x : Per A B) (y : Per B C) : Per A C := fun a o h k => y a o (x a o h k) k
theorem per_same {H H' : Hp} (e : Same H H') : Per H H' := fun a o h _ => e a o h
theorem same_new {H : Hp} {p : Addr} {o : HO} (h : H p = none) : Same H (upd H p o) := fun b x e => by
  rw [upd_ne (ne_of_none e h)]
  exact e
theorem per_upd {H : Hp} {p : Addr} {u o : HO} (h : H p = some u) (k : keeps u = false) : Per H (upd H p o) := fun a x e kx => by
  have hne : a ≠ p := fun q => by
    subst q
    rw [h] at e
    cases e
    rw [k] at kx
    cases kx
  rw [upd_ne hne]
  exact e

def Stat (K : PySem.W.Frag) (T : String) (a : Addr) (xs : List V) : Prop :=
  ∃ (o : Obj) (its : Array Value) (n : Nat), K.lookup a = some o ∧ o.cls = .type T ∧ o.dict = none ∧ o.data = .seq its n ∧ its.size ≤ sizeLine ∧ Vals xs its.toList
/-- a locked list -/
def FzL (H : Hp) (a : Addr) (xs : List V) : Prop := ∃ o, H a = some (.frz o (.lst xs))
theorem FzL.seq {K : PySem.W.Frag} {H : Hp} {a : Addr} {xs : List V} (h : FzL H a xs) : SqL K H a xs := .inl (.inr h)
theorem FzL.per {H H' : Hp} {a : Addr} {xs : List V} (e : Per H H') (h : FzL H a xs) : FzL H' a xs := by
  obtain ⟨o, h⟩ := h
  exact ⟨o, e _ _ h rfl⟩
theorem sqt_per {K : PySem.W.Frag} {H H' : Hp} {a : Addr} {xs : List V} (e : Per H H') (h : SqT K H a xs) : SqT K H' a xs := by
  rcases h with (h | ⟨o, h⟩) | h
  · exact .inl (.inl (e _ _ h rfl))
  · exact .inl (.inr ⟨o, e _ _ h rfl⟩)
  · exact .inr h
/-- a list lent by the caller, or locked since -/
def SqB (K : PySem.W.Frag) (B H : Hp) (a : Addr) (xs : List V) : Prop := SqL K B a xs ∨ FzL H a xs
theorem sql_same {K : PySem.W.Frag} {H H' : Hp} {a : Addr} {xs : List V} (e : Same H H') (h : SqL K H a xs) : SqL K H' a xs := e.seq h

theorem SqB.seq {K : PySem.W.Frag} {B H : Hp} {a : Addr} {xs : List V} (e : Same B H) (h : SqB K B H a xs) : SqL K H a xs := h.elim (fun q => sql_same e q) FzL.seq
theorem SqB.per {K : PySem.W.Frag} {B H H' : Hp} {a : Addr} {xs : List V} (e : Per H H') (h : SqB K B H a xs) : SqB K B H' a xs := h.elim .inl fun q => .inr (q.per e)

/-! ## immutable data -/
mutual
inductive Im (K : PySem.W.Frag) (H : Hp) : V → PyData → Prop
  | non : Im K H .non .none
  | bl (b : Bool) : Im K H (.bl b) (.bool b)
  | int (i : Int) : Im K H (.int i) (.int i)
  | str (x : Str) : Im K H (.str x) (.str x)
  | lst {a : Addr} {xs : List V} {ds : List PyData} : FzL H a xs → ImAll K H xs ds → Im K H (.ref a) (.list ds)
  | tup {a : Addr} {xs : List V} {ds : List PyData} : SqT K H a xs → ImAll K H xs ds → Im K H (.ref a) (.tuple ds)
inductive ImAll (K : PySem.W.Frag) (H : Hp) : List V → List PyData → Prop
  | nil : ImAll K H [] []
  | cons {v : V} {vs : List V} {d : PyData} {ds : List PyData} : Im K H v d → ImAll K H vs ds → ImAll K H (v :: vs) (d :: ds)
end
section
variable {K : PySem.W.Frag} {H H' : Hp}
mutual
theorem Im.per (e : Per H H') : ∀ (d : PyData) (v : V), Im K H v d → Im K H' v d
  | .none, _, h => by cases h; exact .non
  | .bool b, _, h => by cases h; exact .bl b
  | .int i, _, h => by cases h; exact .int i
  | .str x, _, h => by cases h; exact .str x
  | .list ds, _, h => by
    cases h with
    | lst h1 h2 => exact .lst (h1.per e) (ImAll.per e ds _ h2)
  | .tuple ds, _, h => by
    cases h with
    | tup h1 h2 => exact .tup (sqt_per e h1) (ImAll.per e ds _ h2)
  | .dict _, _, h => by cases h
theorem ImAll.per (e : Per H H') : ∀ (ds : List PyData) (vs : List V), ImAll K H vs ds → ImAll K H' vs ds
  | [], _, h => by cases h; exact .nil
  | d :: ds, _, h => by
    cases h with
    | cons h1 h2 => exact .cons (Im.per e d _ h1) (ImAll.per e ds _ h2)
end
mutual
theorem Im.dp : ∀ (d : PyData) (v : V), Im K H v d → Dp K H v d
  | .none, _, h => by cases h; exact .non
  | .bool b, _, h => by cases h; exact .bl b
  | .int i, _, h => by cases h; exact .int i
  | .str x, _, h => by cases h; exact .str x
  | .list ds, _, h => by
    cases h with
    | lst h1 h2 => exact .lst h1.seq (ImAll.dp ds _ h2)
  | .tuple ds, _, h => by
    cases h with
    | tup h1 h2 => exact .tup h1 (ImAll.dp ds _ h2)
  | .dict _, _, h => by cases h
theorem ImAll.dp : ∀ (ds : List PyData) (vs : List V), ImAll K H vs ds → DpAll K H vs ds
  | [], _, h => by cases h; exact .nil
  | d :: ds, _, h => by
    cases h with
    | cons h1 h2 => exact .cons (Im.dp d _ h1) (ImAll.dp ds _ h2)
end
theorem Im.to {v : V} {d : PyData} (h : Im K H v d) (e : Per H H') : Im K H' v d := Im.per e d v h
theorem ImAll.to {vs : List V} {ds : List PyData} (h : ImAll K H vs ds) (e : Per H H') : ImAll K H' vs ds := ImAll.per e ds vs h
theorem Im.toDp {v : V} {d : PyData} (h : Im K H v d) : Dp K H v d := Im.dp d v h
theorem ImAll.toDp {vs : List V} {ds : List PyData} (h : ImAll K H vs ds) : DpAll K H vs ds := ImAll.dp ds vs h
theorem ImAll.length : ∀ {vs : List V} {ds : List PyData}, ImAll K H vs ds → vs.length = ds.length
  | _, _, .nil => rfl
  | _, _, .cons _ h => by simp [h.length]
theorem ImAll.get : ∀ {vs : List V} {ds : List PyData} {i : Nat} {d : PyData}, ImAll K H vs ds → ds[i]? = some d → ∃ v, vs[i]? = some v ∧ Im K H v d
  | _, _, _, _, .nil, e => by simp at e
  | _, _, 0, _, .cons h _, e => by
    simp at e
    subst e
    exact ⟨_, rfl, h⟩
  | _, _, i + 1, _, .cons _ h, e => by
    obtain ⟨v, h1, h2⟩ := h.get (i := i) (by simpa using e)
    exact ⟨v, by simpa using h1, h2⟩
theorem ImAll.getV : ∀ {vs : List V} {ds : List PyData} {i : Nat} {v : V}, ImAll K H vs ds → vs[i]? = some v → ∃ d, ds[i]? = some d ∧ Im K H v d
  | _, _, _, _, .nil, e => by simp at e
  | _, _, 0, _, .cons h _, e => by
    simp at e
    subst e
    exact ⟨_, rfl, h⟩
  | _, _, i + 1, _, .cons _ h, e => by
    obtain ⟨v, h1, h2⟩ := h.getV (i := i) (by simpa using e)
    exact ⟨v, by simpa using h1, h2⟩
theorem ImAll.append : ∀ {vs ws : List V} {ds es : List PyData}, ImAll K H vs ds → ImAll K H ws es → ImAll K H (vs ++ ws) (ds ++ es)
  | _, _, _, _, .nil, s => s
  | _, _, _, _, .cons r t, s => .cons r (t.append s)
theorem ImAll.one {v : V} {d : PyData} (h : Im K H v d) : ImAll K H [v] [d] := .cons h .nil
theorem ImAll.set {v : V} {d : PyData} (h : Im K H v d) : ∀ {vs : List V} {ds : List PyData} (i : Nat), ImAll K H vs ds → ImAll K H (vs.set i v) (ds.set i d)
  | _, _, _, .nil => .nil
  | _, _, 0, .cons _ t => .cons h t
  | _, _, i + 1, .cons q t => .cons q (ImAll.set h i t)
theorem ImAll.take : ∀ {vs : List V} {ds : List PyData} (n : Nat), ImAll K H vs ds → ImAll K H (vs.take n) (ds.take n)
  | _, _, 0, _ => .nil
  | _, _, _ + 1, .nil => .nil
  | _, _, n + 1, .cons q t => .cons q (ImAll.take n t)
theorem ImAll.drop : ∀ {vs : List V} {ds : List PyData} (n : Nat), ImAll K H vs ds → ImAll K H (vs.drop n) (ds.drop n)
  | _, _, 0, h => h
  | _, _, _ + 1, .nil => .nil
  | _, _, n + 1, .cons _ t => ImAll.drop n t
theorem ImAll.dropLast : ∀ {vs : List V} {ds : List PyData}, ImAll K H vs ds → ImAll K H vs.dropLast ds.dropLast
  | _, _, .nil => .nil
  | _, _, .cons _ .nil => .nil
  | _, _, .cons q (.cons r t) => .cons q (ImAll.dropLast (.cons r t))
theorem ImAll.reverse : ∀ {vs : List V} {ds : List PyData}, ImAll K H vs ds → ImAll K H vs.reverse ds.reverse
  | _, _, .nil => .nil
  | _, _, .cons q t => by
    rw [List.reverse_cons, List.reverse_cons]
    exact t.reverse.append (.one q)
theorem ImAll.repl {vs : List V} {ds : List PyData} (h : ImAll K H vs ds) : ∀ k : Nat, ImAll K H (List.replicate k vs).flatten (List.replicate k ds).flatten
  | 0 => .nil
  | k + 1 => by
    rw [List.replicate_succ, List.replicate_succ, List.flatten_cons, List.flatten_cons]
    exact h.append (h.repl k)
theorem ImAll.ints : ∀ ns : List Int, ImAll K H (ns.map V.int) (ns.map PyData.int)
  | [] => .nil
  | n :: ns => .cons (.int n) (ImAll.ints ns)
theorem ImAll.of_ints : ∀ {ns : List Int} {vs : List V}, ImAll K H vs (ns.map PyData.int) → vs = ns.map V.int
  | [], _, h => by cases h; rfl
  | n :: ns, _, h => by
    cases h with
    | cons h1 h2 =>
      cases h1
      rw [ImAll.of_ints h2]
      rfl
theorem ImAll.of_bls : ∀ {bs : List Bool} {vs : List V}, ImAll K H vs (bs.map PyData.bool) → vs = bs.map V.bl
  | [], _, h => by cases h; rfl
  | n :: ns, _, h => by
    cases h with
    | cons h1 h2 =>
      cases h1
      rw [ImAll.of_bls h2]
      rfl
end
/-- a list's or tuple's part -/
def cutD (ds : List PyData) (lo hi : Option Int) : List PyData := (ds.drop (HT.sIx ds.length 0 lo)).take (HT.sIx ds.length ds.length hi - HT.sIx ds.length 0 lo)
theorem ImAll.cut {K : PySem.W.Frag} {H : Hp} {vs : List V} {ds : List PyData} (h : ImAll K H vs ds) (lo hi : Option Int) : ImAll K H (cutV vs lo hi) (cutD ds lo hi) := by
  unfold cutV cutD
  rw [h.length]
  exact (h.drop _).take _

/-! ## the bag -/
def BagO (p c : Addr) : Heap → Prop := fun h => ∃ (a s i : Int) (ta ts ti : Tok) (n : Nat),
  h.get? p = some { cls := .type "list", data := .seq #[.int a ta, .int s ts, .int i ti, .ref c] n } ∧ 0 ≤ a ∧ 0 ≤ s ∧ s < 2147483647 ∧ 0 ≤ i
def Cells (ns : List Int) : Prop := ns.length ≤ 63 ∧ ∀ n ∈ ns, 0 ≤ n
def Bag (H : Hp) (p : Addr) : Prop := ∃ (c : Addr) (ns : List Int), H p = some (.ext (BagO p c)) ∧ FzL H c (ns.map V.int) ∧ Cells ns
theorem Bag.per {H H' : Hp} {p : Addr} (e : Per H H') (h : Bag H p) : Bag H' p := by
  obtain ⟨c, ns, h1, h2, h3⟩ := h
  exact ⟨c, ns, e _ _ h1 rfl, h2.per e, h3⟩

/-! ## slots, results -/
inductive Slot where
  | any | dat (d : PyData) | lst (ds : List PyData) | own (ds : List PyData) | bag
inductive Res where
  | dat (d : PyData) | bor (ds : List PyData) | len (ds : List PyData) | fresh (ds : List PyData) | bag

def SlotOk (K : PySem.W.Frag) (B H : Hp) (o : Option V) : Slot → Prop
  | .any => True
  | .dat d => ∃ v, o = some v ∧ Im K H v d
  | .lst ds => ∃ p vs, o = some (.ref p) ∧ SqB K B H p vs ∧ ImAll K H vs ds
  | .own ds => ∃ p vs, o = some (.ref p) ∧ B p = none ∧ H p = some (.lst vs) ∧ ImAll K H vs ds
  | .bag => ∃ p, o = some (.ref p) ∧ Bag H p
def ResOk (K : PySem.W.Frag) (B H H' : Hp) (v : V) : Res → Prop
  | .dat d => Im K H' v d
  | .bor ds => ∃ p vs, v = .ref p ∧ SqB K B H' p vs ∧ ImAll K H' vs ds
  | .len ds => ∃ p vs, v = .ref p ∧ H' p = some (.lst vs) ∧ ImAll K H' vs ds
  | .fresh ds => ∃ p vs, v = .ref p ∧ H p = none ∧ H' p = some (.lst vs) ∧ ImAll K H' vs ds
  | .bag => ∃ p, v = .ref p ∧ Bag H' p
def isOwn : Slot → Bool
  | .own _ => true
  | _ => false
structure Rel (K : PySem.W.Frag) (B H : Hp) (σ : St) (δ : List Slot) : Prop where
  same : Same B H
  len : σ.length = δ.length
  at_ : ∀ (i : Nat) s, δ[i]? = some s → SlotOk K B H (σ[i]?.join) s
  apart : ∀ (i j : Nat) s t (p : Addr), i ≠ j → δ[i]? = some s → δ[j]? = some t → isOwn s = true → isOwn t = true → σ[i]? = some (some (.ref p)) → σ[j]? ≠ some (some (.ref p))

section
variable {K : PySem.W.Frag} {B B' H H1 H2 H' : Hp} {σ : St} {δ : List Slot} {v : V} {r : Res}
theorem SlotOk.same {o : Option V} {s : Slot} (h : SlotOk K B H o s) (e : Same H H') : SlotOk K B H' o s := by
  cases s with
  | any => trivial
  | dat d =>
    obtain ⟨v, h1, h2⟩ := h
    exact ⟨v, h1, h2.to (per_same e)⟩
  | lst ds =>
    obtain ⟨p, vs, h1, h2, h3⟩ := h
    exact ⟨p, vs, h1, h2.per (per_same e), h3.to (per_same e)⟩
  | own ds =>
    obtain ⟨p, vs, h1, h2, h3, h4⟩ := h
    exact ⟨p, vs, h1, h2, e _ _ h3, h4.to (per_same e)⟩
  | bag =>
    obtain ⟨p, h1, h2⟩ := h
    exact ⟨p, h1, h2.per (per_same e)⟩
theorem Rel.grow (h : Rel K B H σ δ) (e : Same H H') : Rel K B H' σ δ :=
  ⟨h.same.trans e, h.len, fun i s hs => (h.at_ i s hs).same e, h.apart⟩
theorem ResOk.grow (h : ResOk K B H H1 v r) (e : Same H1 H2) : ResOk K B H H2 v r := by
  cases r with
  | dat d => exact Im.to h (per_same e)
  | bor ds =>
    obtain ⟨p, vs, h1, h2, h3⟩ := h
    exact ⟨p, vs, h1, h2.per (per_same e), h3.to (per_same e)⟩
  | len ds =>
    obtain ⟨p, vs, h1, h2, h3⟩ := h
    exact ⟨p, vs, h1, e _ _ h2, h3.to (per_same e)⟩
  | fresh ds =>
    obtain ⟨p, vs, h1, h2, h3, h4⟩ := h
    exact ⟨p, vs, h1, h2, e _ _ h3, h4.to (per_same e)⟩
  | bag =>
    obtain ⟨p, h1, h2⟩ := h
    exact ⟨p, h1, h2.per (per_same e)⟩
theorem ResOk.from_ (h : ResOk K B H1 H2 v r) (e : Same H H1) : ResOk K B H H2 v r := by
  cases r with
  | fresh ds =>
    obtain ⟨p, vs, h1, h2, h3, h4⟩ := h
    exact ⟨p, vs, h1, e.free h2, h3, h4⟩
  | _ => exact h
/-- the items of a list -/
def Res.items : Res → Option (List PyData)
  | .dat (.list ds) => some ds
  | .bor ds => some ds
  | .len ds => some ds
  | .fresh ds => some ds
  | _ => none
/-- the data as it stands -/
def Res.data : Res → Option PyData
  | .dat d => some d
  | .bor ds => some (.list ds)
  | .len ds => some (.list ds)
  | .fresh ds => some (.list ds)
  | .bag => none
/-- a list that may be written (or was just made) -/
def Res.mine : Res → Option (List PyData)
  | .len ds => some ds
  | .fresh ds => some ds
  | _ => none
theorem ResOk.list {ds : List PyData} (e : Same B H') (h : ResOk K B H H' v r) (hi : r.items = some ds) : ∃ p vs, v = .ref p ∧ SqL K H' p vs ∧ ImAll K H' vs ds := by
  cases r with
  | dat d =>
    cases d <;> cases hi
    cases h with
    | lst h1 h2 => exact ⟨_, _, rfl, h1.seq, h2⟩
  | bor es =>
    cases hi
    obtain ⟨p, vs, h1, h2, h3⟩ := h
    exact ⟨p, vs, h1, h2.seq e, h3⟩
  | len es =>
    cases hi
    obtain ⟨p, vs, h1, h2, h3⟩ := h
    exact ⟨p, vs, h1, SqL.of h2, h3⟩
  | fresh es =>
    cases hi
    obtain ⟨p, vs, h1, _, h2, h3⟩ := h
    exact ⟨p, vs, h1, SqL.of h2, h3⟩
  | bag => cases hi
theorem ResOk.listM {ds : List PyData} (h : ResOk K B H H' v r) (hi : r.mine = some ds) : ∃ p vs, v = .ref p ∧ H' p = some (.lst vs) ∧ ImAll K H' vs ds := by
  cases r with
  | dat d => cases hi
  | bor es => cases hi
  | len es =>
    cases hi
    exact h
  | fresh es =>
    cases hi
    obtain ⟨p, vs, h1, _, h2, h3⟩ := h
    exact ⟨p, vs, h1, h2, h3⟩
  | bag => cases hi
theorem ResOk.dp {d : PyData} (e : Same B H') (h : ResOk K B H H' v r) (hi : r.data = some d) : Dp K H' v d := by
  cases r with
  | dat d' =>
    cases hi
    exact Im.toDp h
  | bag => cases hi
  | bor es =>
    cases hi
    obtain ⟨p, vs, rfl, h2, h3⟩ := h
    exact .lst (h2.seq e) h3.toDp
  | len es =>
    cases hi
    obtain ⟨p, vs, rfl, h2, h3⟩ := h
    exact .lst (SqL.of h2) h3.toDp
  | fresh es =>
    cases hi
    obtain ⟨p, vs, rfl, _, h2, h3⟩ := h
    exact .lst (SqL.of h2) h3.toDp

/-! ## the judgements over abstract slots -/
def EvC (K : PySem.W.Frag) (te : TE) (δ : List Slot) (k : Res → Prop) : Prop :=
  ∀ (B H : Hp) (σ : St), Rel K B H σ δ → ∀ Q : VK, (∀ v H' r, Same H H' → ResOk K B H H' v r → k r → Q v H') → te σ H Q
inductive ArgsOk (K : PySem.W.Frag) (B H H' : Hp) : List V → List Res → Prop
  | nil : ArgsOk K B H H' [] []
  | cons {v : V} {vs : List V} {r : Res} {rs : List Res} : ResOk K B H H' v r → ArgsOk K B H H' vs rs → ArgsOk K B H H' (v :: vs) (r :: rs)
theorem ArgsOk.from_ {vs : List V} {rs : List Res} (e : Same H H1) : ArgsOk K B H1 H2 vs rs → ArgsOk K B H H2 vs rs := fun h => by
  induction h with
  | nil => exact .nil
  | cons h1 _ ih => exact .cons (h1.from_ e) ih
theorem ArgsOk.length {vs : List V} {rs : List Res} (h : ArgsOk K B H H' vs rs) : vs.length = rs.length := by
  induction h with
  | nil => rfl
  | cons _ _ ih => simp [ih]
def EvA (K : PySem.W.Frag) (ta : TA) (δ : List Slot) (k : List Res → Prop) : Prop :=
  ∀ (B H : Hp) (σ : St), Rel K B H σ δ → ∀ Q : List V → Hp → Prop, (∀ vs H' rs, Same H H' → ArgsOk K B H H' vs rs → k rs → Q vs H') → ta σ H Q
def EvT (K : PySem.W.Frag) (tt : TT) (δ : List Slot) (k : Bool → Prop) : Prop :=
  ∀ (B H : Hp) (σ : St), Rel K B H σ δ → ∀ Q : Bool → Hp → Prop, (∀ b H', Same H H' → k b → Q b H') → tt σ H Q
def EvO (K : PySem.W.Frag) (to : TO) (δ : List Slot) (k : Option Int → Prop) : Prop :=
  ∀ (B H : Hp) (σ : St), Rel K B H σ δ → ∀ Q : Option Int → Hp → Prop, (∀ o H', Same H H' → k o → Q o H') → to σ H Q
structure AEnds where
  nx : List Slot → Prop
  rt : Res → Prop
  bk : List Slot → Prop := fun _ => False
  ct : List Slot → Prop := fun _ => False
/-- D is held by E, over the base B -/
structure Cn (K : PySem.W.Frag) (B : Hp) (D : AEnds) (E : Ends) : Prop where
  nx : ∀ σ H δ, Rel K B H σ δ → D.nx δ → E.nx σ H
  rt : ∀ v H r, Same B H → ResOk K B B H v r → D.rt r → E.rt v H
  bk : ∀ σ H δ, Rel K B H σ δ → D.bk δ → E.bk σ H
  ct : ∀ σ H δ, Rel K B H σ δ → D.ct δ → E.ct σ H
def SD (K : PySem.W.Frag) (ts : TS) (D : AEnds) (δ : List Slot) : Prop :=
  ∀ (B H : Hp) (σ : St), Rel K B H σ δ → ∀ E : Ends, Cn K B D E → ts E σ H
theorem EvC.imp {te : TE} {k k' : Res → Prop} (h : EvC K te δ k) (hk : ∀ r, k r → k' r) : EvC K te δ k' :=
  fun B H σ R Q q => h B H σ R Q fun v H' r e o kr => q v H' r e o (hk r kr)
theorem EvT.imp {te : TT} {k k' : Bool → Prop} (h : EvT K te δ k) (hk : ∀ r, k r → k' r) : EvT K te δ k' :=
  fun B H σ R Q q => h B H σ R Q fun b H' e kr => q b H' e (hk b kr)
end
end Dl

/-! own layer, expressions -/
namespace Dl
open PySem PySem.Spec L2

section
variable {K : PySem.W.Frag} {B H H' : Hp} {i : Int} {b : Bool} {x : Str} {p : Addr} {vs : List V} {ds : List PyData}
theorem rInt : ResOk K B H H' (.int i) (.dat (.int i)) := Im.int i
theorem rBl : ResOk K B H H' (.bl b) (.dat (.bool b)) := Im.bl b
theorem rStr : ResOk K B H H' (.str x) (.dat (.str x)) := Im.str x
theorem rNon : ResOk K B H H' .non (.dat .none) := Im.non
theorem rTup (h : SqT K H' p vs) (a : ImAll K H' vs ds) : ResOk K B H H' (.ref p) (.dat (.tuple ds)) := Im.tup h a
theorem rLst (h : FzL H' p vs) (a : ImAll K H' vs ds) : ResOk K B H H' (.ref p) (.dat (.list ds)) := Im.lst h a
theorem rIm {v : V} {d : PyData} (h : Im K H' v d) : ResOk K B H H' v (.dat d) := h
theorem rBor (h : SqB K B H' p vs) (a : ImAll K H' vs ds) : ResOk K B H H' (.ref p) (.bor ds) := ⟨p, vs, rfl, h, a⟩
theorem rLen (h : H' p = some (.lst vs)) (a : ImAll K H' vs ds) : ResOk K B H H' (.ref p) (.len ds) := ⟨p, vs, rfl, h, a⟩
theorem rBag (h : Bag H' p) : ResOk K B H H' (.ref p) .bag := ⟨p, rfl, h⟩
theorem rTupN {H1 : Hp} (h : H1 p = none) (a : ImAll K H1 vs ds) : ResOk K B H (upd H1 p (.tup vs)) (.ref p) (.dat (.tuple ds)) := Im.tup (SqT.of upd_same) (a.to (per_same (same_new h)))
theorem rFreshN {H1 : Hp} (e : Same H H1) (h : H1 p = none) (a : ImAll K H1 vs ds) : ResOk K B H (upd H1 p (.lst vs)) (.ref p) (.fresh ds) := ⟨p, vs, rfl, e.free h, upd_same, a.to (per_same (same_new h))⟩
theorem rFresh (h : H p = none) (h' : H' p = some (.lst vs)) (a : ImAll K H' vs ds) : ResOk K B H H' (.ref p) (.fresh ds) := ⟨p, vs, rfl, h, h', a⟩
end
section
variable {K : PySem.W.Frag} {δ : List Slot} {k : Res → Prop} {ta tb te : TE} {r : R2}

/-! ## operators, by results -/
def OpOk (K : PySem.W.Frag) (r : R2) (P : Res → Res → (Res → Prop) → Prop) : Prop :=
  ∀ (B H H1 : Hp) (x y : V) (rx ry : Res) (k : Res → Prop) (Q : VK), Same B H → Same H H1 → ResOk K B H H1 x rx → ResOk K B H H1 y ry → P rx ry k →
    (∀ z H2 rz, Same H1 H2 → ResOk K B H H2 z rz → k rz → Q z H2) → r x y H1 Q
theorem ec_op {P : Res → Res → (Res → Prop) → Prop} (h : OpOk K r P) (g : EvC K ta δ fun x => EvC K tb δ fun y => P x y k) : EvC K (tOp r ta tb) δ k := by
  intro B H σ R Q q
  refine g B H σ R _ fun x H1 rx e1 o1 g1 => ?_
  refine g1 B H1 σ (R.grow e1) _ fun y H2 ry e2 o2 p => ?_
  exact h B H H2 x y rx ry k Q R.same (e1.trans e2) (o1.grow e2) (o2.from_ e1) p fun z H3 rz e3 o3 kz => q z H3 rz ((e1.trans e2).trans e3) o3 kz

def slotRes : Slot → Option Res
  | .any => none
  | .dat d => some (.dat d)
  | .lst ds => some (.bor ds)
  | .own ds => some (.len ds)
  | .bag => some .bag
theorem ec_var {i : Nat} {s : Slot} {x : Res} (h : δ[i]? = some s) (hs : slotRes s = some x) (q : k x) : EvC K (tVar i) δ k := by
  intro B H σ R Q g
  have hat := R.at_ i s h
  have look : ∀ v, σ[i]?.join = some v → σ[i]? = some (some v) := fun v e => by
    cases h1 : σ[i]? with
    | none => rw [h1] at e; cases e
    | some o => rw [h1] at e; exact congrArg some e
  cases s with
  | any => cases hs
  | dat d =>
    cases hs
    obtain ⟨v, h1, h2⟩ := hat
    exact ⟨v, look _ h1, g v H _ (Same.refl H) (rIm h2) q⟩
  | lst ds =>
    cases hs
    obtain ⟨p, vs, h1, h2⟩ := hat
    exact ⟨_, look _ h1, g _ H _ (Same.refl H) (rBor h2.1 h2.2) q⟩
  | own ds =>
    cases hs
    obtain ⟨p, vs, h1, _, h2⟩ := hat
    exact ⟨_, look _ h1, g _ H _ (Same.refl H) (rLen h2.1 h2.2) q⟩
  | bag =>
    cases hs
    obtain ⟨p, h1, h2⟩ := hat
    exact ⟨_, look _ h1, g _ H _ (Same.refl H) (rBag h2) q⟩
theorem ec_c {v : V} {d : PyData} (hv : ∀ H, Im K H v d) (q : k (.dat d)) : EvC K (tC v) δ k := fun B H σ R Q g => g v H _ (Same.refl H) (rIm (hv H)) q
theorem ec_int {i : Int} (q : k (.dat (.int i))) : EvC K (tC (.int i)) δ k := ec_c (fun _ => .int i) q
theorem ec_bl {b : Bool} (q : k (.dat (.bool b))) : EvC K (tC (.bl b)) δ k := ec_c (fun _ => .bl b) q
theorem ec_non (q : k (.dat .none)) : EvC K (tC .non) δ k := ec_c (fun _ => .non) q
theorem ec_str {x : Str} (q : k (.dat (.str x))) : EvC K (tC (.str x)) δ k := ec_c (fun _ => .str x) q

/-! ### + -/
def rStrCat : R2 := fun x y H Q => ∃ i j, x = .str i ∧ y = .str j ∧ i.length + j.length ≤ sizeLine ∧ Q (.str (i ++ j)) H
def rAddI : R2 := rI0 fun i j => .int (i + j)
def rAdd (K : PySem.W.Frag) : R2 := fun x y H Q => rAddI x y H Q ∨ (rCat x y H Q ∨ (rCatA K x y H Q ∨ rStrCat x y H Q))
theorem oAdd {X : Cx} : OpR X (binaryOp .Add) (rAdd X.K) := .or op_add (.or op_cat (.or op_catA op_add_str))
inductive AddP : Res → Res → (Res → Prop) → Prop
  | int {i j : Int} {k : Res → Prop} : k (.dat (.int (i + j))) → AddP (.dat (.int i)) (.dat (.int j)) k
  | lst {x y : Res} {ds es : List PyData} {k : Res → Prop} : x.mine = some ds → y.mine = some es → ds.length + es.length ≤ sizeLine → k (.fresh (ds ++ es)) → AddP x y k
  | tup {ds es : List PyData} {k : Res → Prop} : ds.length + es.length ≤ sizeLine → k (.dat (.tuple (ds ++ es))) → AddP (.dat (.tuple ds)) (.dat (.tuple es)) k
  | str {x y : Str} {k : Res → Prop} : x.length + y.length ≤ sizeLine → k (.dat (.str (x ++ y))) → AddP (.dat (.str x)) (.dat (.str y)) k
theorem opAdd : OpOk K (rAdd K) AddP := by
  intro B H H1 x y rx ry k Q e0 e1 ox oy p q
  cases p with
  | int g =>
    cases ox; cases oy
    exact .inl ⟨_, _, rfl, rfl, q _ _ _ (Same.refl _) rInt g⟩
  | lst hx hy hl g =>
    obtain ⟨a, xs, rfl, ha, ia⟩ := ox.listM hx
    obtain ⟨b, ys, rfl, hb, ib⟩ := oy.listM hy
    refine .inr (.inl ⟨a, b, xs, ys, rfl, rfl, ha, hb, by rw [ia.length, ib.length]; exact hl, fun p hp => ?_⟩)
    exact q _ _ _ (same_new hp) (rFreshN e1 hp (ia.append ib)) g
  | tup hl g =>
    cases ox with
    | tup sx ix =>
      cases oy with
      | tup sy iy =>
        refine .inr (.inr (.inl ⟨_, _, _, _, rfl, rfl, sx, sy, by rw [ix.length, iy.length]; exact hl, fun z => ?_, fun _ z => ?_, fun _ _ p hp => ?_⟩))
        · subst z
          cases ix
          exact q _ _ _ (Same.refl _) (rTup sy iy) g
        · subst z
          cases iy
          rw [List.append_nil] at g
          exact q _ _ _ (Same.refl _) (rTup sx ix) g
        · exact q _ _ _ (same_new hp) (rTupN hp (ix.append iy)) g
  | str hl g =>
    cases ox; cases oy
    exact .inr (.inr (.inr ⟨_, _, rfl, rfl, hl, q _ _ _ (Same.refl _) rStr g⟩))

/-! ### ints alone -/
/-- two ints in, data out -/
inductive IntP (C : Int → Int → Prop) (g : Int → Int → PyData) : Res → Res → (Res → Prop) → Prop
  | mk {i j : Int} {k : Res → Prop} : C i j → k (.dat (g i j)) → IntP C g (.dat (.int i)) (.dat (.int j)) k
theorem opI {C : Int → Int → Prop} {f : Int → Int → V} {g : Int → Int → PyData} (h : ∀ H i j, Im K H (f i j) (g i j)) : OpOk K (rI C f) (IntP C g) := by
  intro B H H1 x y rx ry k Q e0 e1 ox oy p q
  cases p with
  | mk c g =>
    cases ox; cases oy
    exact ⟨_, _, rfl, rfl, c, q _ _ _ (Same.refl _) (rIm (h _ _ _)) g⟩
theorem opI0 {f : Int → Int → V} {g : Int → Int → PyData} (h : ∀ H i j, Im K H (f i j) (g i j)) : OpOk K (rI0 f) (IntP (fun _ _ => True) g) := by
  intro B H H1 x y rx ry k Q e0 e1 ox oy p q
  cases p with
  | mk c g =>
    cases ox; cases oy
    exact ⟨_, _, rfl, rfl, q _ _ _ (Same.refl _) (rIm (h _ _ _)) g⟩
def rSub : R2 := rI0 fun i j => .int (i - j)
def rFdv : R2 := rI CDivW fun i j => .int (i / j)
def rMod : R2 := rI (fun _ j => 0 < j) fun i j => .int (i % j)
def rPow : R2 := rI CPow fun i j => .int (i ^ j.toNat)
theorem oSub {X : Cx} : OpR X (binaryOp .Sub) rSub := op_sub
theorem oFdv {X : Cx} : OpR X (binaryOp .FloorDiv) rFdv := op_fdivW
theorem oMod {X : Cx} : OpR X (binaryOp .Mod) rMod := op_mod
theorem oPow {X : Cx} : OpR X (binaryOp .Pow) rPow := op_pow
theorem opSub : OpOk K rSub (IntP (fun _ _ => True) fun i j => .int (i - j)) := opI0 fun _ _ _ => .int _
theorem opFdv : OpOk K rFdv (IntP CDivW fun i j => .int (i / j)) := opI fun _ _ _ => .int _
theorem opMod : OpOk K rMod (IntP (fun _ j => 0 < j) fun i j => .int (i % j)) := opI fun _ _ _ => .int _
theorem opPow : OpOk K rPow (IntP CPow fun i j => .int (i ^ j.toNat)) := opI fun _ _ _ => .int _
theorem sub_i {i j : Int} (g : k (.dat (.int (i - j)))) : IntP (fun _ _ => True) (fun i j => .int (i - j)) (.dat (.int i)) (.dat (.int j)) k := .mk trivial g
theorem fdv_i {i j : Int} (c : CDivW i j) (g : k (.dat (.int (i / j)))) : IntP CDivW (fun i j => .int (i / j)) (.dat (.int i)) (.dat (.int j)) k := .mk c g
theorem mod_i {i j : Int} (c : 0 < j) (g : k (.dat (.int (i % j)))) : IntP (fun _ j => 0 < j) (fun i j => .int (i % j)) (.dat (.int i)) (.dat (.int j)) k := .mk c g
theorem pow_i {i j : Int} (c : CPow i j) (g : k (.dat (.int (i ^ j.toNat)))) : IntP CPow (fun i j => .int (i ^ j.toNat)) (.dat (.int i)) (.dat (.int j)) k := .mk c g

/-! ### * -/
def rMulI : R2 := rI CMulW fun i j => .int (i * j)
def rMul (K : PySem.W.Frag) : R2 := fun x y H Q => rMulI x y H Q ∨ (rRep x y H Q ∨ rRepT K x y H Q)
theorem oMul {X : Cx} : OpR X (binaryOp .Mult) (rMul X.K) := .or op_mulW (.or op_rep op_repT)
inductive MulP : Res → Res → (Res → Prop) → Prop
  | int {i j : Int} {k : Res → Prop} : CMulW i j → k (.dat (.int (i * j))) → MulP (.dat (.int i)) (.dat (.int j)) k
  | lst {x : Res} {ds : List PyData} {n : Int} {k : Res → Prop} : x.mine = some ds → -(2 ^ 63) ≤ n → n < 2 ^ 63 → ds.length * n.toNat ≤ sizeLine → k (.fresh (List.replicate n.toNat ds).flatten) → MulP x (.dat (.int n)) k
  | tup {ds : List PyData} {n : Int} {k : Res → Prop} : ds ≠ [] → 2 ≤ n → n ≤ 1000 → ds.length ≤ 1000 → k (.dat (.tuple (List.replicate n.toNat ds).flatten)) → MulP (.dat (.tuple ds)) (.dat (.int n)) k
theorem opMul : OpOk K (rMul K) MulP := by
  intro B H H1 x y rx ry k Q e0 e1 ox oy p q
  cases p with
  | int c g =>
    cases ox; cases oy
    exact .inl ⟨_, _, rfl, rfl, c, q _ _ _ (Same.refl _) rInt g⟩
  | lst hx h1 h2 hl g =>
    obtain ⟨a, xs, rfl, ha, ia⟩ := ox.listM hx
    cases oy
    refine .inr (.inl ⟨a, _, xs, rfl, rfl, ha, h1, h2, by rw [ia.length]; exact hl, fun p hp => ?_⟩)
    exact q _ _ _ (same_new hp) (rFreshN e1 hp (ia.repl _)) g
  | tup hn h1 h2 hl g =>
    cases ox with
    | tup sx ix =>
      cases oy
      refine .inr (.inr ⟨_, _, _, rfl, rfl, sx, fun z => hn ?_, h1, h2, by rw [ix.length]; exact hl, fun p hp => ?_⟩)
      · subst z
        cases ix
        rfl
      · exact q _ _ _ (same_new hp) (rTupN hp (ix.repl _)) g

/-! ### comparisons -/
theorem oEq {X : Cx} (hu : X.A.units + 64 < cLine) : OpR X (compareOp .Eq) (rEqD X.K) := op_eqD hu
theorem oNe {X : Cx} (hu : X.A.units + 64 < cLine) : OpR X (compareOp .NotEq) (rNeD X.K) := op_neD hu
inductive EqP : Res → Res → (Res → Prop) → Prop
  | int {i j : Int} {k : Res → Prop} : k (.dat (.bool (decide (i = j)))) → EqP (.dat (.int i)) (.dat (.int j)) k
  | gen {x y : Res} {d e : PyData} {k : Res → Prop} : x.data = some d → y.data = some e → SeqAt.shaped d = true → SeqAt.shaped e = true → k (.dat (.bool (PyData.eqv d e))) → EqP x y k
theorem eqv_int (i j : Int) : PyData.eqv (.int i) (.int j) = decide (i = j) := by simp only [PyData.eqv]; rfl
theorem opEq : OpOk K (rEqD K) EqP := by
  intro B H H1 x y rx ry k Q e0 e1 ox oy p q
  cases p with
  | int g =>
    refine ⟨_, _, Im.toDp ox, Im.toDp oy, rfl, rfl, q _ _ _ (Same.refl _) rBl ?_⟩
    rw [eqv_int]
    exact g
  | gen hx hy sx sy g => exact ⟨_, _, ox.dp (e0.trans e1) hx, oy.dp (e0.trans e1) hy, sx, sy, q _ _ _ (Same.refl _) rBl g⟩
inductive NeP : Res → Res → (Res → Prop) → Prop
  | int {i j : Int} {k : Res → Prop} : k (.dat (.bool (!decide (i = j)))) → NeP (.dat (.int i)) (.dat (.int j)) k
  | gen {x y : Res} {d e : PyData} {k : Res → Prop} : x.data = some d → y.data = some e → SeqAt.shaped d = true → SeqAt.shaped e = true → k (.dat (.bool (!PyData.eqv d e))) → NeP x y k
theorem opNe : OpOk K (rNeD K) NeP := by
  intro B H H1 x y rx ry k Q e0 e1 ox oy p q
  cases p with
  | int g =>
    refine ⟨_, _, Im.toDp ox, Im.toDp oy, rfl, rfl, q _ _ _ (Same.refl _) rBl ?_⟩
    rw [eqv_int]
    exact g
  | gen hx hy sx sy g => exact ⟨_, _, ox.dp (e0.trans e1) hx, oy.dp (e0.trans e1) hy, sx, sy, q _ _ _ (Same.refl _) rBl g⟩
def rLtI : R2 := rI0 fun i j => .bl (decide (i < j))
def rLtA (K : PySem.W.Frag) : R2 := fun x y H Q => rLtI x y H Q ∨ rLtT K x y H Q
theorem oLt {X : Cx} (hu : X.A.units < cLine) : OpR X (compareOp .Lt) (rLtA X.K) := .or op_lt (op_ltT hu)
inductive LtP : Res → Res → (Res → Prop) → Prop
  | int {i j : Int} {k : Res → Prop} : k (.dat (.bool (decide (i < j)))) → LtP (.dat (.int i)) (.dat (.int j)) k
  | tup {ns ms : List Int} {k : Res → Prop} : k (.dat (.bool (HT.lexLt ns ms))) → LtP (.dat (.tuple (ns.map .int))) (.dat (.tuple (ms.map .int))) k
theorem opLt : OpOk K (rLtA K) LtP := by
  intro B H H1 x y rx ry k Q e0 e1 ox oy p q
  cases p with
  | int g =>
    cases ox; cases oy
    exact .inl ⟨_, _, rfl, rfl, q _ _ _ (Same.refl _) rBl g⟩
  | tup g =>
    cases ox with
    | tup sx ix =>
      cases oy with
      | tup sy iy =>
        rw [ix.of_ints] at sx
        rw [iy.of_ints] at sy
        exact .inr ⟨_, _, _, _, rfl, rfl, sx, sy, q _ _ _ (Same.refl _) rBl g⟩
def rLe : R2 := rI0 fun i j => .bl (decide (i ≤ j))
def rGt : R2 := rI0 fun i j => .bl (decide (j < i))
def rGe : R2 := rI0 fun i j => .bl (decide (j ≤ i))
theorem oLe {X : Cx} : OpR X (compareOp .LtE) rLe := op_le
theorem oGt {X : Cx} : OpR X (compareOp .Gt) rGt := op_gt
theorem oGe {X : Cx} : OpR X (compareOp .GtE) rGe := op_ge
theorem opLe : OpOk K rLe (IntP (fun _ _ => True) fun i j => .bool (decide (i ≤ j))) := opI0 fun _ _ _ => .bl _
theorem opGt : OpOk K rGt (IntP (fun _ _ => True) fun i j => .bool (decide (j < i))) := opI0 fun _ _ _ => .bl _
theorem opGe : OpOk K rGe (IntP (fun _ _ => True) fun i j => .bool (decide (j ≤ i))) := opI0 fun _ _ _ => .bl _
theorem le_i {i j : Int} (g : k (.dat (.bool (decide (i ≤ j))))) : IntP (fun _ _ => True) (fun i j => .bool (decide (i ≤ j))) (.dat (.int i)) (.dat (.int j)) k := .mk trivial g
theorem gt_i {i j : Int} (g : k (.dat (.bool (decide (j < i))))) : IntP (fun _ _ => True) (fun i j => .bool (decide (j < i))) (.dat (.int i)) (.dat (.int j)) k := .mk trivial g
theorem ge_i {i j : Int} (g : k (.dat (.bool (decide (j ≤ i))))) : IntP (fun _ _ => True) (fun i j => .bool (decide (j ≤ i))) (.dat (.int i)) (.dat (.int j)) k := .mk trivial g
def rIsNo : R2 := fun x y H Q => y = .non ∧ Q (.bl (decide (x = .non))) H
def rNotNo : R2 := fun x y H Q => y = .non ∧ Q (.bl (!decide (x = .non))) H
theorem oIsNo {X : Cx} : OpR X (compareOp .Is) rIsNo := op_isN
theorem oNotNo {X : Cx} : OpR X (compareOp .IsNot) rNotNo := op_notN
def isNo : PyData → Bool
  | .none => true
  | _ => false
theorem isNo_im {H : Hp} {v : V} {d : PyData} (h : Im K H v d) : decide (v = .non) = isNo d := by
  cases h <;> first | rfl | exact decide_eq_false (fun q => nomatch q)
inductive NoP (f : Bool → Bool) : Res → Res → (Res → Prop) → Prop
  | dat {d : PyData} {k : Res → Prop} : k (.dat (.bool (f (isNo d)))) → NoP f (.dat d) (.dat .none) k
theorem opIsNo : OpOk K rIsNo (NoP id) := by
  intro B H H1 x y rx ry k Q e0 e1 ox oy p q
  cases p with
  | dat g =>
    cases oy
    refine ⟨rfl, ?_⟩
    rw [isNo_im ox]
    exact q _ _ _ (Same.refl _) rBl g
theorem opNotNo : OpOk K rNotNo (NoP not) := by
  intro B H H1 x y rx ry k Q e0 e1 ox oy p q
  cases p with
  | dat g =>
    cases oy
    refine ⟨rfl, ?_⟩
    rw [isNo_im ox]
    exact q _ _ _ (Same.refl _) rBl g

/-! ### subscripts, slices -/
theorem atI_im {H : Hp} {vs : List V} {ds : List PyData} {i : Int} {d : PyData} (h : ImAll K H vs ds) (e : atI ds i = some d) : ∃ v, atI vs i = some v ∧ Im K H v d := by
  unfold atI at e ⊢
  rw [h.length]
  cases hj : ixN ds.length i with
  | none => rw [hj] at e; cases e
  | some j =>
    rw [hj] at e
    exact h.get e
inductive IxP : Res → Res → (Res → Prop) → Prop
  | lst {x : Res} {ds : List PyData} {i : Int} {d : PyData} {k : Res → Prop} : x.items = some ds → atI ds i = some d → k (.dat d) → IxP x (.dat (.int i)) k
  | tup {ds : List PyData} {i : Int} {d : PyData} {k : Res → Prop} : atI ds i = some d → k (.dat d) → IxP (.dat (.tuple ds)) (.dat (.int i)) k
theorem opIx : OpOk K (rIx K) IxP := by
  intro B H H1 x y rx ry k Q e0 e1 ox oy p q
  cases p with
  | lst hx ha g =>
    obtain ⟨a, xs, rfl, h1, h2⟩ := ox.list (e0.trans e1) hx
    cases oy
    obtain ⟨v, h3, h4⟩ := atI_im h2 ha
    exact .inl ⟨a, xs, _, v, rfl, rfl, h1, h3, q _ _ _ (Same.refl _) (rIm h4) g⟩
  | tup ha g =>
    cases ox with
    | tup sx ix =>
      cases oy
      obtain ⟨v, h3, h4⟩ := atI_im ix ha
      exact .inr (.inl ⟨_, _, _, v, rfl, rfl, sx, h3, q _ _ _ (Same.refl _) (rIm h4) g⟩)
def rSl (K : PySem.W.Frag) : V → Option Int → Option Int → Hp → VK → Prop := fun x lo hi H Q => rSlL K x lo hi H Q ∨ rSlA K x lo hi H Q
theorem oSl {X : Cx} : SlR X (rSl X.K) := .or sl_list sl_tupA
theorem eo_none {k : Option Int → Prop} (q : k none) : EvO K tNoPart δ k := fun B H σ R Q g => g none H (Same.refl H) q
theorem eo_some {k : Option Int → Prop} (q : EvC K te δ fun x => ∃ i, x = .dat (.int i) ∧ k (some i)) : EvO K (tPart te) δ k := fun B H σ R Q g =>
  q B H σ R _ fun v H' x e o ⟨i, hx, kx⟩ => by
    subst hx
    cases o
    exact ⟨i, rfl, g _ _ e kx⟩
inductive SlP : Res → Option Int → Option Int → (Res → Prop) → Prop
  | lst {x : Res} {ds : List PyData} {lo hi : Option Int} {k : Res → Prop} : x.items = some ds → k (.fresh (cutD ds lo hi)) → SlP x lo hi k
  | tup {ds : List PyData} {lo hi : Option Int} {k : Res → Prop} : k (.dat (.tuple (cutD ds lo hi))) → SlP (.dat (.tuple ds)) lo hi k
theorem cutD_all {ds : List PyData} {lo hi : Option Int} (h : HT.sIx ds.length 0 lo = 0 ∧ HT.sIx ds.length ds.length hi = ds.length) : cutD ds lo hi = ds := by
  unfold cutD
  rw [h.1, h.2]
  simp
theorem ec_sl {tl th : TO} (g : EvC K te δ fun x => EvO K tl δ fun lo => EvO K th δ fun hi => SlP x lo hi k) : EvC K (tSl (rSl K) te tl th) δ k := by
  intro B H σ R Q q
  refine g B H σ R _ fun x H1 rx e1 ox g1 => ?_
  refine g1 B H1 σ (R.grow e1) _ fun lo H2 e2 g2 => ?_
  refine g2 B H2 σ (R.grow (e1.trans e2)) _ fun hi H3 e3 p => ?_
  have e := (e1.trans e2).trans e3
  have ox := (ox.grow e2).grow e3
  cases p with
  | lst hx g =>
    obtain ⟨a, xs, rfl, h1, h2⟩ := ox.list (R.same.trans e) hx
    refine .inl ⟨a, xs, rfl, h1, fun p hp => ?_⟩
    exact q _ _ _ (e.trans (same_new hp)) (rFreshN e hp (h2.cut lo hi)) g
  | tup g =>
    cases ox with
    | tup sx ix =>
      refine .inr ⟨_, _, rfl, sx, fun z => ?_, fun _ p hp => ?_⟩
      · rw [ix.length] at z
        rw [cutD_all z] at g
        exact q _ _ _ e (rTup sx ix) g
      · exact q _ _ _ (e.trans (same_new hp)) (rTupN hp (ix.cut lo hi)) g

/-! ### - -/
def rNeg : V → Hp → VK → Prop := rU fun i => .int (-i)
theorem oNeg {X : Cx} : UnR X (unaryOp .USub) rNeg := un_neg
theorem ec_neg (g : EvC K te δ fun x => ∃ i, x = .dat (.int i) ∧ k (.dat (.int (-i)))) : EvC K (tUn rNeg te) δ k := fun B H σ R Q q =>
  g B H σ R _ fun v H' x e o ⟨i, hx, kx⟩ => by
    subst hx
    cases o
    exact ⟨i, rfl, q _ _ _ e rInt kx⟩

/-! ### tests -/
theorem et_test {kb : Bool → Prop} (g : EvC K te δ fun x => ∃ b, x = .dat (.bool b) ∧ kb b) : EvT K (tTest te) δ kb := fun B H σ R Q q =>
  g B H σ R _ fun v H' x e o ⟨b, hx, kx⟩ => by
    subst hx
    cases o
    exact ⟨b, rfl, q _ _ e kx⟩
def tTr (K : PySem.W.Frag) (ta : TE) : TT := fun σ H Q => ta σ H fun x H' => ∃ k, TruV K x H' k ∧ Q k H'
inductive TrP : Res → (Bool → Prop) → Prop
  | bool {b : Bool} {k : Bool → Prop} : k b → TrP (.dat (.bool b)) k
  | none {k : Bool → Prop} : k false → TrP (.dat .none) k
  | int {i : Int} {k : Bool → Prop} : k (i != 0) → TrP (.dat (.int i)) k
  | lst {x : Res} {ds : List PyData} {k : Bool → Prop} : x.items = some ds → k (!ds.isEmpty) → TrP x k
  | tup {ds : List PyData} {k : Bool → Prop} : k (!ds.isEmpty) → TrP (.dat (.tuple ds)) k
theorem isEmpty_im {H : Hp} {vs : List V} {ds : List PyData} (h : ImAll K H vs ds) : vs.isEmpty = ds.isEmpty := by cases h <;> rfl
theorem et_tr {kb : Bool → Prop} (g : EvC K te δ fun x => TrP x kb) : EvT K (tTr K te) δ kb := fun B H σ R Q q =>
  g B H σ R _ fun v H' x e o p => by
    cases p with
    | bool g => cases o; exact ⟨_, rfl, q _ _ e g⟩
    | none g => cases o; exact ⟨_, rfl, q _ _ e g⟩
    | int g => cases o; exact ⟨_, rfl, q _ _ e g⟩
    | lst hx g =>
      obtain ⟨a, xs, rfl, h1, h2⟩ := o.list (R.same.trans e) hx
      exact ⟨_, .inl ⟨xs, h1, rfl⟩, q _ _ e (by rw [isEmpty_im h2]; exact g)⟩
    | tup g =>
      cases o with
      | tup sx ix => exact ⟨_, .inr (.inl ⟨_, sx, rfl⟩), q _ _ e (by rw [isEmpty_im ix]; exact g)⟩
/-- both ways of a test -/
def Br (b : Bool) (X Y : Prop) : Prop := (b = true → X) ∧ (b = false → Y)
theorem Br.t {X Y : Prop} (h : X) : Br true X Y := ⟨fun _ => h, fun e => Bool.noConfusion e⟩
theorem Br.f {X Y : Prop} (h : Y) : Br false X Y := ⟨fun e => Bool.noConfusion e, fun _ => h⟩
theorem et_and {t u : TT} {kb : Bool → Prop} (g : EvT K t δ fun b => Br b (EvT K u δ kb) (kb false)) : EvT K (tAnd t u) δ kb := fun B H σ R Q q =>
  g B H σ R _ fun b H1 e1 p => by
    cases b with
    | true => exact p.1 rfl B H1 σ (R.grow e1) Q fun c H2 e2 kc => q c H2 (e1.trans e2) kc
    | false => exact q false H1 e1 (p.2 rfl)
theorem et_or {t u : TT} {kb : Bool → Prop} (g : EvT K t δ fun b => Br b (kb true) (EvT K u δ kb)) : EvT K (tOr t u) δ kb := fun B H σ R Q q =>
  g B H σ R _ fun b H1 e1 p => by
    cases b with
    | true => exact q true H1 e1 (p.1 rfl)
    | false => exact p.2 rfl B H1 σ (R.grow e1) Q fun c H2 e2 kc => q c H2 (e1.trans e2) kc
theorem et_not {t : TT} {kb : Bool → Prop} (g : EvT K t δ fun b => kb (!b)) : EvT K (tNot t) δ kb := fun B H σ R Q q => g B H σ R _ fun b H1 e1 p => q _ H1 e1 p
theorem ec_if {t : TT} (g : EvT K t δ fun b => Br b (EvC K ta δ k) (EvC K tb δ k)) : EvC K (tIf t ta tb) δ k := fun B H σ R Q q =>
  g B H σ R _ fun b H1 e1 p => by
    cases b with
    | true => exact p.1 rfl B H1 σ (R.grow e1) Q fun v H2 r e2 o kc => q v H2 r (e1.trans e2) (o.from_ e1) kc
    | false => exact p.2 rfl B H1 σ (R.grow e1) Q fun v H2 r e2 o kc => q v H2 r (e1.trans e2) (o.from_ e1) kc
theorem ec_and (g : EvC K ta δ fun x => ∃ b, x = .dat (.bool b) ∧ Br b (EvC K tb δ k) (k (.dat (.bool false)))) : EvC K (tAndV ta tb) δ k := fun B H σ R Q q =>
  g B H σ R _ fun v H1 x e1 o ⟨b, hx, p⟩ => by
    subst hx
    cases o
    cases b with
    | true => exact ⟨true, rfl, p.1 rfl B H1 σ (R.grow e1) Q fun v H2 r e2 o kc => q v H2 r (e1.trans e2) (o.from_ e1) kc⟩
    | false => exact ⟨false, rfl, q _ H1 _ e1 rBl (p.2 rfl)⟩
theorem ec_or (g : EvC K ta δ fun x => ∃ b, x = .dat (.bool b) ∧ Br b (k (.dat (.bool true))) (EvC K tb δ k)) : EvC K (tOrV ta tb) δ k := fun B H σ R Q q =>
  g B H σ R _ fun v H1 x e1 o ⟨b, hx, p⟩ => by
    subst hx
    cases o
    cases b with
    | true => exact ⟨true, rfl, q _ H1 _ e1 rBl (p.1 rfl)⟩
    | false => exact ⟨false, rfl, p.2 rfl B H1 σ (R.grow e1) Q fun v H2 r e2 o kc => q v H2 r (e1.trans e2) (o.from_ e1) kc⟩
theorem ec_not (g : EvC K te δ fun x => ∃ b, x = .dat (.bool b) ∧ k (.dat (.bool (!b)))) : EvC K (tNotV te) δ k := fun B H σ R Q q =>
  g B H σ R _ fun v H' x e o ⟨b, hx, kx⟩ => by
    subst hx
    cases o
    exact ⟨b, rfl, q _ _ _ e rBl kx⟩
/-- a < b < c -/
theorem ec_chain {r' : R2} {tc : TE} {P P' : Res → Res → (Res → Prop) → Prop} (h : OpOk K r P) (h' : OpOk K r' P')
    (g : EvC K ta δ fun x => EvC K tb δ fun y => P x y fun z => ∃ b, z = .dat (.bool b) ∧ Br b (EvC K tc δ fun w => P' y w k) (k (.dat (.bool false)))) : EvC K (tChain r r' ta tb tc) δ k := by
  intro B H σ R Q q
  refine g B H σ R _ fun x H1 rx e1 o1 g1 => ?_
  refine g1 B H1 σ (R.grow e1) _ fun y H2 ry e2 o2 p => ?_
  have e12 := e1.trans e2
  refine h B H H2 x y rx ry _ _ R.same e12 (o1.grow e2) (o2.from_ e1) p fun z H3 rz e3 o3 ⟨b, hz, hb⟩ => ?_
  subst hz
  cases o3
  refine ⟨b, rfl, ?_⟩
  cases b with
  | true =>
    rw [if_pos rfl]
    have e13 := e12.trans e3
    refine hb.1 rfl B H3 σ (R.grow e13) _ fun w H4 rw_ e4 o4 p' => ?_
    exact h' B H H4 y w ry rw_ k Q R.same (e13.trans e4) ((o2.from_ e1).grow (e3.trans e4)) (o4.from_ e13) p' fun z H5 rz e5 o5 kz => q z H5 rz ((e13.trans e4).trans e5) o5 kz
  | false =>
    rw [if_neg Bool.false_ne_true]
    exact q _ _ _ (e12.trans e3) rBl (hb.2 rfl)

/-! ### argument lists, displays -/
theorem ea_nil {k : List Res → Prop} (q : k []) : EvA K tNil δ k := fun B H σ R Q g => g [] H [] (Same.refl H) .nil q
theorem ArgsOk.grow {B H H1 H2 : Hp} {vs : List V} {rs : List Res} (e : Same H1 H2) (h : ArgsOk K B H H1 vs rs) : ArgsOk K B H H2 vs rs := by
  induction h with
  | nil => exact .nil
  | cons h1 _ ih => exact .cons (h1.grow e) ih
theorem ea_cons {tr : TA} {k : List Res → Prop} (g : EvC K te δ fun x => EvA K tr δ fun xs => k (x :: xs)) : EvA K (tCons te tr) δ k := by
  intro B H σ R Q q
  refine g B H σ R _ fun x H1 rx e1 o1 g1 => ?_
  refine g1 B H1 σ (R.grow e1) _ fun xs H2 rs e2 o2 p => ?_
  exact q _ _ _ (e1.trans e2) (.cons (o1.grow e2) (o2.from_ e1)) p
/-- results that are data already -/
def dats : List Res → Option (List PyData)
  | [] => some []
  | .dat d :: r => (dats r).map (d :: ·)
  | _ :: _ => none
theorem dats_im {B H H' : Hp} : ∀ {rs : List Res} {vs : List V} {ds : List PyData}, ArgsOk K B H H' vs rs → dats rs = some ds → ImAll K H' vs ds
  | [], _, _, .nil, e => by cases e; exact .nil
  | .dat d :: rs, _, _, .cons h1 h2, e => by
    unfold dats at e
    cases hr : dats rs with
    | none => rw [hr] at e; cases e
    | some es =>
      rw [hr] at e
      cases e
      exact .cons h1 (dats_im h2 hr)
  | .bor _ :: _, _, _, _, e => by cases e
  | .len _ :: _, _, _, _, e => by cases e
  | .fresh _ :: _, _, _, _, e => by cases e
  | .bag :: _, _, _, _, e => by cases e
theorem ec_tup {t : TA} (g : EvA K t δ fun rs => ∃ ds, dats rs = some ds ∧ ds.length ≤ 1000 ∧ k (.dat (.tuple ds))) : EvC K (tTup t) δ k := by
  intro B H σ R Q q
  refine g B H σ R _ fun xs H1 rs e1 o1 ⟨ds, hd, hl, kx⟩ => ?_
  have im := dats_im o1 hd
  refine ⟨by rw [im.length]; exact Nat.le_of_lt (small1000 hl), fun p hp => ?_⟩
  exact q _ _ _ (e1.trans (same_new hp)) (rTupN hp im) kx
theorem ec_lst {t : TA} (g : EvA K t δ fun rs => ∃ ds, dats rs = some ds ∧ ds.length ≤ 1000 ∧ k (.fresh ds)) : EvC K (tLst t) δ k := by
  intro B H σ R Q q
  refine g B H σ R _ fun xs H1 rs e1 o1 ⟨ds, hd, hl, kx⟩ => ?_
  have im := dats_im o1 hd
  refine ⟨by rw [im.length]; exact Nat.le_of_lt (small1000 hl), fun p hp => ?_⟩
  exact q _ _ _ (e1.trans (same_new hp)) (rFreshN e1 hp im) kx

/-! ### a list that is locked for ever -/
def tFrz (te : TE) : TE := fun σ H Q => te σ H fun v H1 => Q v H1 ∨ ∃ p xs, v = .ref p ∧ H1 p = some (.lst xs) ∧ ∀ o, Q v (upd H1 p (.frz o (.lst xs)))
theorem pe_frz {X : Cx} {e : Expr} (h : PE X e te) : PE X e (tFrz te) := by
  refine ⟨fun pins s σ H Q I hq => ?_⟩
  refine thn (h.run pins s σ H _ I hq) fun u s' ⟨v, H1, I1, rv, hv⟩ => ?_
  rcases hv with hv | ⟨p, xs, rfl, hp, hv⟩
  · exact ⟨v, H1, I1, rv, hv⟩
  · obtain ⟨o, I2⟩ := I1.lock hp trivial
    exact ⟨_, _, I2, rv, hv o⟩
def frzR : Res → Res
  | .fresh ds => .dat (.list ds)
  | x => x
theorem ec_frz (g : EvC K te δ fun x => k (frzR x)) : EvC K (tFrz te) δ k := by
  intro B H σ R Q q
  refine g B H σ R _ fun v H1 x e o kx => ?_
  cases x with
  | fresh ds =>
    obtain ⟨p, vs, rfl, h1, h2, h3⟩ := o
    refine .inr ⟨p, vs, rfl, h2, fun ob => ?_⟩
    have e2 : Same H (upd H1 p (.frz ob (.lst vs))) := fun a u ha => by
      rw [upd_ne (ne_of_none ha h1)]
      exact e _ _ ha
    have e3 : Per H1 (upd H1 p (.frz ob (.lst vs))) := per_upd h2 rfl
    exact q _ _ _ e2 (rLst ⟨ob, upd_same⟩ (h3.to e3)) kx
  | dat d => exact .inl (q _ _ _ e o kx)
  | bor d => exact .inl (q _ _ _ e o kx)
  | len d => exact .inl (q _ _ _ e o kx)
  | bag => exact .inl (q _ _ _ e o kx)

/-! ### built-in functions -/
def CbOk (K : PySem.W.Frag) (r : List V → Hp → VK → Prop) (P : List Res → (Res → Prop) → Prop) : Prop :=
  ∀ (B H H1 : Hp) (vs : List V) (rs : List Res) (k : Res → Prop) (Q : VK), Same B H → Same H H1 → ArgsOk K B H H1 vs rs → P rs k →
    (∀ z H2 rz, Same H1 H2 → ResOk K B H H2 z rz → k rz → Q z H2) → r vs H1 Q
theorem ec_cb {r : List V → Hp → VK → Prop} {P : List Res → (Res → Prop) → Prop} {t : TA} (h : CbOk K r P) (g : EvA K t δ fun rs => P rs k) : EvC K (tCB r t) δ k := by
  intro B H σ R Q q
  refine g B H σ R _ fun xs H1 rs e1 o1 p => ?_
  exact h B H H1 xs rs k Q R.same e1 o1 p fun z H2 rz e2 o2 kz => q z H2 rz (e1.trans e2) o2 kz
def bAbs : List V → Hp → VK → Prop := fun xs H Q => ∃ i, xs = [.int i] ∧ Q (.int (if i < 0 then -i else i)) H
def bMax2 : List V → Hp → VK → Prop := fun xs H Q => ∃ i j, xs = [.int i, .int j] ∧ Q (.int (if j > i then j else i)) H
def bMin2 : List V → Hp → VK → Prop := fun xs H Q => ∃ i j, xs = [.int i, .int j] ∧ Q (.int (if j < i then j else i)) H
def bInt : List V → Hp → VK → Prop := fun xs H Q => (∃ i, xs = [.int i] ∧ Q (.int i) H) ∨ ∃ k, xs = [.bl k] ∧ Q (.int (if k then 1 else 0)) H
def bLen (K : PySem.W.Frag) : List V → Hp → VK → Prop := fun xs H Q => ∃ x n, xs = [x] ∧ LenV K x H n ∧ Q (.int n) H
def bList (K : PySem.W.Frag) : List V → Hp → VK → Prop := fun xs H Q => ∃ p ys, xs = [.ref p] ∧ (SqL K H p ys ∨ SqT K H p ys) ∧ ∀ l, H l = none → Q (.ref l) (upd H l (.lst ys))
def bTuple (K : PySem.W.Frag) : List V → Hp → VK → Prop := fun xs H Q => ∃ p ys, xs = [.ref p] ∧ ((SqL K H p ys ∧ ∀ l, H l = none → Q (.ref l) (upd H l (.tup ys))) ∨ (SqT K H p ys ∧ Q (.ref p) H))
section
variable {X : Cx}
theorem cAbs : CallR X (.builtin "abs") bAbs := call_abs
theorem cMax2 (hc : X.calm = true) : CallR X (.builtin "max") bMax2 := call_max2 hc
theorem cMin2 (hc : X.calm = true) : CallR X (.builtin "min") bMin2 := call_min2 hc
theorem cInt : CallR X (.type "int") bInt := call_int1
theorem cLen : CallR X (.builtin "len") (bLen X.K) := call_len
theorem cList : CallR X (.type "list") (bList X.K) := call_list_of
theorem cTuple : CallR X (.type "tuple") (bTuple X.K) := call_tuple_of
end
inductive AbsP : List Res → (Res → Prop) → Prop
  | mk {i : Int} {k : Res → Prop} : k (.dat (.int (if i < 0 then -i else i))) → AbsP [.dat (.int i)] k
theorem cbAbs : CbOk K bAbs AbsP := by
  intro B H H1 vs rs k Q e0 e1 o p q
  cases p with
  | mk g =>
    cases o with
    | cons o1 o2 =>
      cases o1; cases o2
      exact ⟨_, rfl, q _ _ _ (Same.refl _) rInt g⟩
inductive Int2P (f : Int → Int → Int) : List Res → (Res → Prop) → Prop
  | mk {i j : Int} {k : Res → Prop} : k (.dat (.int (f i j))) → Int2P f [.dat (.int i), .dat (.int j)] k
theorem cbMax2 : CbOk K bMax2 (Int2P fun i j => if j > i then j else i) := by
  intro B H H1 vs rs k Q e0 e1 o p q
  cases p with
  | mk g =>
    cases o with
    | cons o1 o2 =>
      cases o2 with
      | cons o2 o3 =>
        cases o1; cases o2; cases o3
        exact ⟨_, _, rfl, q _ _ _ (Same.refl _) rInt g⟩
theorem cbMin2 : CbOk K bMin2 (Int2P fun i j => if j < i then j else i) := by
  intro B H H1 vs rs k Q e0 e1 o p q
  cases p with
  | mk g =>
    cases o with
    | cons o1 o2 =>
      cases o2 with
      | cons o2 o3 =>
        cases o1; cases o2; cases o3
        exact ⟨_, _, rfl, q _ _ _ (Same.refl _) rInt g⟩
inductive ToIntP : List Res → (Res → Prop) → Prop
  | int {i : Int} {k : Res → Prop} : k (.dat (.int i)) → ToIntP [.dat (.int i)] k
  | bool {b : Bool} {k : Res → Prop} : k (.dat (.int (if b then 1 else 0))) → ToIntP [.dat (.bool b)] k
theorem cbInt : CbOk K bInt ToIntP := by
  intro B H H1 vs rs k Q e0 e1 o p q
  cases p with
  | int g =>
    cases o with
    | cons o1 o2 =>
      cases o1; cases o2
      exact .inl ⟨_, rfl, q _ _ _ (Same.refl _) rInt g⟩
  | bool g =>
    cases o with
    | cons o1 o2 =>
      cases o1; cases o2
      exact .inr ⟨_, rfl, q _ _ _ (Same.refl _) rInt g⟩
inductive LenP : List Res → (Res → Prop) → Prop
  | lst {x : Res} {ds : List PyData} {k : Res → Prop} : x.items = some ds → k (.dat (.int (ds.length : Nat))) → LenP [x] k
  | tup {ds : List PyData} {k : Res → Prop} : k (.dat (.int (ds.length : Nat))) → LenP [.dat (.tuple ds)] k
  | str {z : Str} {k : Res → Prop} : z.length ≤ sizeLine → k (.dat (.int (z.length : Nat))) → LenP [.dat (.str z)] k
theorem cbLen : CbOk K (bLen K) LenP := by
  intro B H H1 vs rs k Q e0 e1 o p q
  cases p with
  | lst hx g =>
    cases o with
    | cons o1 o2 =>
      cases o2
      obtain ⟨a, xs, rfl, h1, h2⟩ := o1.list (e0.trans e1) hx
      refine ⟨_, _, rfl, .inl ⟨xs, h1, rfl⟩, q _ _ _ (Same.refl _) rInt ?_⟩
      rw [h2.length]
      exact g
  | tup g =>
    cases o with
    | cons o1 o2 =>
      cases o2
      cases o1 with
      | tup sx ix =>
        refine ⟨_, _, rfl, .inr ⟨_, sx, rfl⟩, q _ _ _ (Same.refl _) rInt ?_⟩
        rw [ix.length]
        exact g
  | str hz g =>
    cases o with
    | cons o1 o2 =>
      cases o2; cases o1
      exact ⟨_, _, rfl, ⟨hz, rfl⟩, q _ _ _ (Same.refl _) rInt g⟩
inductive ListP : List Res → (Res → Prop) → Prop
  | lst {x : Res} {ds : List PyData} {k : Res → Prop} : x.items = some ds → k (.fresh ds) → ListP [x] k
  | tup {ds : List PyData} {k : Res → Prop} : k (.fresh ds) → ListP [.dat (.tuple ds)] k
theorem cbList : CbOk K (bList K) ListP := by
  intro B H H1 vs rs k Q e0 e1 o p q
  cases p with
  | lst hx g =>
    cases o with
    | cons o1 o2 =>
      cases o2
      obtain ⟨a, xs, rfl, h1, h2⟩ := o1.list (e0.trans e1) hx
      refine ⟨_, _, rfl, .inl h1, fun l hl => ?_⟩
      exact q _ _ _ (same_new hl) (rFreshN e1 hl h2) g
  | tup g =>
    cases o with
    | cons o1 o2 =>
      cases o2
      cases o1 with
      | tup sx ix =>
        refine ⟨_, _, rfl, .inr sx, fun l hl => ?_⟩
        exact q _ _ _ (same_new hl) (rFreshN e1 hl ix) g
inductive TupleP : List Res → (Res → Prop) → Prop
  | lst {x : Res} {ds : List PyData} {k : Res → Prop} : x.items = some ds → k (.dat (.tuple ds)) → TupleP [x] k
  | tup {ds : List PyData} {k : Res → Prop} : k (.dat (.tuple ds)) → TupleP [.dat (.tuple ds)] k
theorem cbTuple : CbOk K (bTuple K) TupleP := by
  intro B H H1 vs rs k Q e0 e1 o p q
  cases p with
  | lst hx g =>
    cases o with
    | cons o1 o2 =>
      cases o2
      obtain ⟨a, xs, rfl, h1, h2⟩ := o1.list (e0.trans e1) hx
      refine ⟨_, _, rfl, .inl ⟨h1, fun l hl => ?_⟩⟩
      exact q _ _ _ (same_new hl) (rTupN hl h2) g
  | tup g =>
    cases o with
    | cons o1 o2 =>
      cases o2
      cases o1 with
      | tup sx ix => exact ⟨_, _, rfl, .inr ⟨sx, q _ _ _ (Same.refl _) (rTup sx ix) g⟩⟩
/-- sum of a list of ints -/
theorem cSum {X : Cx} (hc : X.calm = true) : CallR X (.builtin "sum") (rSum X.K) := cr_sum hc
inductive SumP : List Res → (Res → Prop) → Prop
  | mk {x : Res} {ns : List Int} {k : Res → Prop} : x.items = some (ns.map .int) → k (.dat (.int ns.sum)) → SumP [x] k
theorem cbSum : CbOk K (rSum K) SumP := by
  intro B H H1 vs rs k Q e0 e1 o p q
  cases p with
  | mk hx g =>
    cases o with
    | cons o1 o2 =>
      cases o2
      obtain ⟨a, xs, rfl, h1, h2⟩ := o1.list (e0.trans e1) hx
      rw [h2.of_ints] at h1
      exact ⟨a, _, rfl, h1, q _ _ _ (Same.refl _) rInt g⟩
theorem cAll {X : Cx} (hc : X.calm = true) : CallR X (.builtin "all") (rAll X.K) := cr_all hc
inductive AllP : List Res → (Res → Prop) → Prop
  | mk {x : Res} {bs : List Bool} {k : Res → Prop} : x.items = some (bs.map .bool) → k (.dat (.bool (bs.all id))) → AllP [x] k
theorem cbAll : CbOk K (rAll K) AllP := by
  intro B H H1 vs rs k Q e0 e1 o p q
  cases p with
  | mk hx g =>
    cases o with
    | cons o1 o2 =>
      cases o2
      obtain ⟨a, xs, rfl, h1, h2⟩ := o1.list (e0.trans e1) hx
      rw [h2.of_bls] at h1
      exact ⟨a, _, rfl, h1, q _ _ _ (Same.refl _) rBl g⟩
end
end Dl

/-! own layer, statements -/
namespace Dl
open PySem PySem.Spec L2
section
variable {K : PySem.W.Frag} {B B' H H0 H1 H' : Hp} {σ : St} {δ : List Slot} {D : AEnds} {te : TE} {nx : List Slot → Prop} {rt : Res → Prop} {bk ct : List Slot → Prop}

/-! ## stores -/
def sto : Res → Slot
  | .dat d => .dat d
  | .bor ds => .lst ds
  | .len _ => .any
  | .fresh ds => .own ds
  | .bag => .bag
theorem sto_ok {v : V} {x : Res} (e : Same B H) (o : ResOk K B H H1 v x) : SlotOk K B H1 (some v) (sto x) := by
  cases x with
  | dat d => exact ⟨v, rfl, o⟩
  | bor ds =>
    obtain ⟨p, vs, rfl, h⟩ := o
    exact ⟨p, vs, rfl, h⟩
  | len ds => trivial
  | fresh ds =>
    obtain ⟨p, vs, rfl, h1, h2⟩ := o
    exact ⟨p, vs, rfl, e.free h1, h2⟩
  | bag =>
    obtain ⟨p, rfl, h⟩ := o
    exact ⟨p, rfl, h⟩
theorem own_there {i : Nat} {ds : List PyData} {p : Addr} (R : Rel K B H σ δ) (h : δ[i]? = some (.own ds)) (hp : σ[i]? = some (some (.ref p))) : ∃ vs, H p = some (.lst vs) := by
  obtain ⟨q, vs, h1, _, h2, _⟩ := R.at_ i _ h
  rw [hp] at h1
  cases h1
  exact ⟨vs, h2⟩
theorem isOwn_at {s : Slot} (h : isOwn s = true) : ∃ ds, s = .own ds := by
  cases s <;> first | exact ⟨_, rfl⟩ | cases h
/-- the slot i gets v: fresh lists are not those of other slots -/
theorem Rel.set {v : V} {x : Res} {i : Nat} (R : Rel K B H σ δ) (e : Same H H1) (o : ResOk K B H0 H1 v x) (e0 : Same B H0) (hf : ∀ ds, x = .fresh ds → Same H H0) : Rel K B H1 (σ.set i (some v)) (δ.set i (sto x)) := by
  have R1 := R.grow e
  refine ⟨R1.same, by rw [List.length_set, List.length_set]; exact R.len, fun j s hs => ?_, fun j l s t p hjl hj hl sj sl hpj hpl => ?_⟩
  · by_cases hij : i = j
    · subst hij
      have hi : i < δ.length := by
        have := (List.getElem?_eq_some_iff.mp hs).1
        rwa [List.length_set] at this
      have hi2 : i < σ.length := by rw [R.len]; exact hi
      rw [List.getElem?_set_self hi] at hs
      cases hs
      rw [List.getElem?_set_self hi2]
      exact sto_ok e0 o
    · rw [List.getElem?_set_ne hij] at hs
      rw [List.getElem?_set_ne hij]
      exact R1.at_ j s hs
  · -- two owned slots with one address
    have key : ∀ (m : Nat) (u : Slot), m ≠ i → (δ.set i (sto x))[m]? = some u → isOwn u = true → (σ.set i (some v))[m]? = some (some (.ref p)) → (σ.set i (some v))[i]? = some (some (.ref p)) → isOwn (sto x) = true → False := by
      intro m u hm hu su hp hpi so
      rw [List.getElem?_set_ne (Ne.symm hm)] at hu hp
      obtain ⟨ds, rfl⟩ := isOwn_at su
      obtain ⟨vs, hv⟩ := own_there R hu hp
      have hi2 : i < σ.length := by
        have := (List.getElem?_eq_some_iff.mp hpi).1
        rwa [List.length_set] at this
      rw [List.getElem?_set_self hi2] at hpi
      cases hpi
      cases x with
      | fresh es =>
        obtain ⟨q, ws, h1, h2, _⟩ := o
        cases h1
        have := hf es rfl _ _ hv
        rw [h2] at this
        cases this
      | dat d => cases so
      | bor d => cases so
      | len d => cases so
      | bag => cases so
    by_cases h1 : j = i
    · subst h1
      have hi : j < δ.length := by
        have := (List.getElem?_eq_some_iff.mp hj).1
        rwa [List.length_set] at this
      have hj2 := hj
      rw [List.getElem?_set_self hi] at hj2
      cases hj2
      exact key l t (Ne.symm hjl) hl sl hpl hpj sj
    · by_cases h2 : l = i
      · subst h2
        have hi : l < δ.length := by
          have := (List.getElem?_eq_some_iff.mp hl).1
          rwa [List.length_set] at this
        have hl2 := hl
        rw [List.getElem?_set_self hi] at hl2
        cases hl2
        exact key j s hjl hj sj hpj hpl sl
      · rw [List.getElem?_set_ne (Ne.symm h1)] at hj hpj
        rw [List.getElem?_set_ne (Ne.symm h2)] at hl hpl
        exact R.apart j l s t p hjl hj hl sj sl hpj hpl
/-- an owned list is rewritten -/
theorem Rel.mut {i : Nat} {ds es : List PyData} {p : Addr} {vs ws : List V} (R : Rel K B H σ δ) (hi : δ[i]? = some (.own ds)) (hp : σ[i]? = some (some (.ref p))) (hv : H p = some (.lst vs)) (im : ImAll K H ws es) :
    Rel K B (upd H p (.lst ws)) σ (δ.set i (.own es)) := by
  have per : Per H (upd H p (.lst ws)) := per_upd hv rfl
  have bn : B p = none := by
    obtain ⟨q, us, h1, h2, _⟩ := R.at_ i _ hi
    rw [hp] at h1
    cases h1
    exact h2
  have hlen : i < δ.length := (List.getElem?_eq_some_iff.mp hi).1
  refine ⟨fun b o h => ?_, by rw [List.length_set]; exact R.len, fun j s hs => ?_, fun j l s t q hjl hj hl sj sl hpj hpl => ?_⟩
  · rw [upd_ne (ne_of_none h bn)]
    exact R.same b o h
  · by_cases hij : i = j
    · subst hij
      rw [List.getElem?_set_self hlen] at hs
      cases hs
      rw [hp]
      exact ⟨p, ws, rfl, bn, upd_same, im.to per⟩
    · rw [List.getElem?_set_ne hij] at hs
      have h0 := R.at_ j s hs
      cases s with
      | any => trivial
      | dat d =>
        obtain ⟨v, h1, h2⟩ := h0
        exact ⟨v, h1, h2.to per⟩
      | lst es =>
        obtain ⟨q, us, h1, h2, h3⟩ := h0
        exact ⟨q, us, h1, h2.per per, h3.to per⟩
      | own es =>
        obtain ⟨q, us, h1, h2, h3, h4⟩ := h0
        have hσ : σ[j]? = some (some (.ref q)) := by
          cases hz : σ[j]? with
          | none => rw [hz] at h1; cases h1
          | some o => rw [hz] at h1; exact congrArg some h1
        have hne : q ≠ p := fun z => by
          subst z
          exact R.apart i j _ _ _ hij hi hs rfl rfl hp hσ
        exact ⟨q, us, h1, h2, by rw [upd_ne hne]; exact h3, h4.to per⟩
      | bag =>
        obtain ⟨q, h1, h2⟩ := h0
        exact ⟨q, h1, h2.per per⟩
  · have un : ∀ (m : Nat) (u : Slot), (δ.set i (.own es))[m]? = some u → isOwn u = true → ∃ u', δ[m]? = some u' ∧ isOwn u' = true := by
      intro m u hu su
      by_cases hm : i = m
      · subst hm
        exact ⟨_, hi, rfl⟩
      · rw [List.getElem?_set_ne hm] at hu
        exact ⟨u, hu, su⟩
    obtain ⟨s', e1, e2⟩ := un j s hj sj
    obtain ⟨t', e3, e4⟩ := un l t hl sl
    exact R.apart j l s' t' q hjl e1 e3 e2 e4 hpj hpl
/-- an owned list is locked for ever -/
theorem Rel.frz {i : Nat} {ds : List PyData} {p : Addr} {vs : List V} {o : Obj} (R : Rel K B H σ δ) (hi : δ[i]? = some (.own ds)) (hp : σ[i]? = some (some (.ref p))) (hv : H p = some (.lst vs)) (im : ImAll K H vs ds) :
    Rel K B (upd H p (.frz o (.lst vs))) σ (δ.set i (.dat (.list ds))) := by
  have per : Per H (upd H p (.frz o (.lst vs))) := per_upd hv rfl
  have bn : B p = none := by
    obtain ⟨q, us, h1, h2, _⟩ := R.at_ i _ hi
    rw [hp] at h1
    cases h1
    exact h2
  have hlen : i < δ.length := (List.getElem?_eq_some_iff.mp hi).1
  refine ⟨fun b o h => ?_, by rw [List.length_set]; exact R.len, fun j s hs => ?_, fun j l s t q hjl hj hl sj sl hpj hpl => ?_⟩
  · rw [upd_ne (ne_of_none h bn)]
    exact R.same b o h
  · by_cases hij : i = j
    · subst hij
      rw [List.getElem?_set_self hlen] at hs
      cases hs
      rw [hp]
      exact ⟨_, rfl, .lst ⟨o, upd_same⟩ (im.to per)⟩
    · rw [List.getElem?_set_ne hij] at hs
      have h0 := R.at_ j s hs
      cases s with
      | any => trivial
      | dat d =>
        obtain ⟨v, h1, h2⟩ := h0
        exact ⟨v, h1, h2.to per⟩
      | lst es =>
        obtain ⟨q, us, h1, h2, h3⟩ := h0
        exact ⟨q, us, h1, h2.per per, h3.to per⟩
      | own es =>
        obtain ⟨q, us, h1, h2, h3, h4⟩ := h0
        have hσ : σ[j]? = some (some (.ref q)) := by
          cases hz : σ[j]? with
          | none => rw [hz] at h1; cases h1
          | some o => rw [hz] at h1; exact congrArg some h1
        have hne : q ≠ p := fun z => by
          subst z
          exact R.apart i j _ _ _ hij hi hs rfl rfl hp hσ
        exact ⟨q, us, h1, h2, by rw [upd_ne hne]; exact h3, h4.to per⟩
      | bag =>
        obtain ⟨q, h1, h2⟩ := h0
        exact ⟨q, h1, h2.per per⟩
  · have un : ∀ (m : Nat) (u : Slot), (δ.set i (.dat (.list ds)))[m]? = some u → isOwn u = true → ∃ u', δ[m]? = some u' ∧ isOwn u' = true := by
      intro m u hu su
      by_cases hm : i = m
      · subst hm
        rw [List.getElem?_set_self hlen] at hu
        cases hu
        cases su
      · rw [List.getElem?_set_ne hm] at hu
        exact ⟨u, hu, su⟩
    obtain ⟨s', e1, e2⟩ := un j s hj sj
    obtain ⟨t', e3, e4⟩ := un l t hl sl
    exact R.apart j l s' t' q hjl e1 e3 e2 e4 hpj hpl
/-- slots forgotten -/
inductive Wk : List Slot → List Slot → Prop
  | nil : Wk [] []
  | same {s : Slot} {a b : List Slot} : Wk a b → Wk (s :: a) (s :: b)
  | any {s : Slot} {a b : List Slot} : Wk a b → Wk (s :: a) (.any :: b)
theorem Wk.refl : ∀ δ : List Slot, Wk δ δ
  | [] => .nil
  | _ :: r => .same (Wk.refl r)
theorem Wk.at {a b : List Slot} (h : Wk a b) : a.length = b.length ∧ ∀ (i : Nat) (s : Slot), b[i]? = some s → s = Slot.any ∨ a[i]? = some s := by
  induction h with
  | nil => exact ⟨rfl, fun i s h => by simp at h⟩
  | same _ ih =>
    refine ⟨by simp [ih.1], fun i s h => ?_⟩
    cases i with
    | zero => exact .inr h
    | succ i => exact ih.2 i s (by simpa using h)
  | any _ ih =>
    refine ⟨by simp [ih.1], fun i s h => ?_⟩
    cases i with
    | zero => simp at h; exact .inl h.symm
    | succ i => exact ih.2 i s (by simpa using h)
theorem Rel.wk {δ' : List Slot} (R : Rel K B H σ δ) (h : Wk δ δ') : Rel K B H σ δ' := by
  obtain ⟨hl, ha⟩ := h.at
  refine ⟨R.same, R.len.trans hl, fun i s hs => ?_, fun i j s t p hij hi hj si sj => ?_⟩
  · rcases ha i s hs with rfl | q
    · trivial
    · exact R.at_ i s q
  · rcases ha i s hi with rfl | q
    · cases si
    · rcases ha j t hj with rfl | q'
      · cases sj
      · exact R.apart i j s t p hij q q' si sj

/-! ## targets: names and tuples of them -/
/-- the store g of x: W tells which slots may change -/
def GE (K : PySem.W.Frag) (g : TG) (x : Res) (δ : List Slot) (W : Nat → Prop) (k : List Slot → Prop) : Prop :=
  ∀ (B H H1 : Hp) (σ : St) (v : V), Rel K B H σ δ → Same H H1 → ResOk K B H H1 v x → ∀ Q : St → Hp → Prop, (∀ σ' δ', Rel K B H1 σ' δ' → σ'.length = σ.length → (∀ i, ¬ W i → σ'[i]? = σ[i]?) → k δ' → Q σ' H1) → g v σ H1 Q
def GEs (K : PySem.W.Frag) (g : TGs) (ds : List PyData) (δ : List Slot) (W : Nat → Prop) (k : List Slot → Prop) : Prop :=
  ∀ (B H : Hp) (σ : St) (vs : List V), Rel K B H σ δ → ImAll K H vs ds → ∀ Q : St → Hp → Prop, (∀ σ' δ', Rel K B H σ' δ' → σ'.length = σ.length → (∀ i, ¬ W i → σ'[i]? = σ[i]?) → k δ' → Q σ' H) → g vs σ H Q
theorem ge_name {i : Nat} {x : Res} {W : Nat → Prop} {k : List Slot → Prop} (hw : W i) (q : k (δ.set i (sto x))) : GE K (gName i) x δ W k := by
  intro B H H1 σ v R e o Q g
  refine g _ _ (R.set (i := i) e o R.same fun _ _ => Same.refl H) (by rw [List.length_set]) (fun j hj => ?_) q
  rw [List.getElem?_set_ne fun z => hj (by rw [← z]; exact hw)]
theorem ges_nil {W : Nat → Prop} {k : List Slot → Prop} (q : k δ) : GEs K gNil [] δ W k := by
  intro B H σ vs R im Q g
  cases im
  exact ⟨rfl, g σ δ R rfl (fun _ _ => rfl) q⟩
theorem ges_cons {g : TG} {gs : TGs} {d : PyData} {ds : List PyData} {W : Nat → Prop} {k : List Slot → Prop} (h : GE K g (.dat d) δ W fun δ' => GEs K gs ds δ' W k) : GEs K (gCons g gs) (d :: ds) δ W k := by
  intro B H σ vs R im Q q
  cases im with
  | cons h1 h2 =>
    refine ⟨_, _, rfl, h B H H σ _ R (Same.refl H) h1 _ fun σ' δ' R' hl hw hk => ?_⟩
    exact hk B H σ' _ R' h2 Q fun σ2 δ2 R2 hl2 hw2 hk2 => q σ2 δ2 R2 (hl2.trans hl) (fun i hi => (hw2 i hi).trans (hw i hi)) hk2
theorem ge_tup {gs : TGs} {ds : List PyData} {n : Nat} {W : Nat → Prop} {k : List Slot → Prop} (hn : ds.length = n) (h : GEs K gs ds δ W k) : GE K (gTup K n gs) (.dat (.tuple ds)) δ W k := by
  intro B H H1 σ v R e o Q q
  cases o with
  | tup sx ix => exact ⟨_, _, rfl, sx, by rw [ix.length]; exact hn, h B H1 σ _ (R.grow e) ix Q q⟩

/-! ## targets of a statement -/
def GS (K : PySem.W.Frag) (g : TG) (x : Res) (δ : List Slot) (k : List Slot → Prop) : Prop :=
  ∀ (B H H1 : Hp) (σ : St) (v : V), Rel K B H σ δ → Same H H1 → ResOk K B H H1 v x → ∀ Q : St → Hp → Prop, (∀ σ' H' δ', Rel K B H' σ' δ' → Per H1 H' → k δ' → Q σ' H') → g v σ H1 Q
def GSs (K : PySem.W.Frag) (g : TGs) (ds : List PyData) (δ : List Slot) (k : List Slot → Prop) : Prop :=
  ∀ (B H : Hp) (σ : St) (vs : List V), Rel K B H σ δ → ImAll K H vs ds → ∀ Q : St → Hp → Prop, (∀ σ' H' δ', Rel K B H' σ' δ' → Per H H' → k δ' → Q σ' H') → g vs σ H Q
theorem gs_name {i : Nat} {x : Res} {k : List Slot → Prop} (q : k (δ.set i (sto x))) : GS K (gName i) x δ k := by
  intro B H H1 σ v R e o Q g
  exact g _ _ _ (R.set (i := i) e o R.same fun _ _ => Same.refl H) (Per.refl _) q
theorem gss_nil {k : List Slot → Prop} (q : k δ) : GSs K gNil [] δ k := by
  intro B H σ vs R im Q g
  cases im
  exact ⟨rfl, g σ H δ R (Per.refl _) q⟩
theorem gss_cons {g : TG} {gs : TGs} {d : PyData} {ds : List PyData} {k : List Slot → Prop} (h : GS K g (.dat d) δ fun δ' => GSs K gs ds δ' k) : GSs K (gCons g gs) (d :: ds) δ k := by
  intro B H σ vs R im Q q
  cases im with
  | cons h1 h2 =>
    refine ⟨_, _, rfl, h B H H σ _ R (Same.refl H) h1 _ fun σ' H' δ' R' pe hk => ?_⟩
    exact hk B H' σ' _ R' (h2.to pe) Q fun σ2 H2 δ2 R2 pe2 hk2 => q σ2 H2 δ2 R2 (pe.trans pe2) hk2
theorem gs_tup {gs : TGs} {ds : List PyData} {n : Nat} {k : List Slot → Prop} (hn : ds.length = n) (h : GSs K gs ds δ k) : GS K (gTup K n gs) (.dat (.tuple ds)) δ k := by
  intro B H H1 σ v R e o Q q
  cases o with
  | tup sx ix => exact ⟨_, _, rfl, sx, by rw [ix.length]; exact hn, h B H1 σ _ (R.grow e) ix Q q⟩
theorem slot_own {i : Nat} {ds : List PyData} (R : Rel K B H σ δ) (h : δ[i]? = some (.own ds)) : ∃ p vs, σ[i]? = some (some (.ref p)) ∧ B p = none ∧ H p = some (.lst vs) ∧ ImAll K H vs ds := by
  obtain ⟨p, vs, h1, h2, h3, h4⟩ := R.at_ i _ h
  refine ⟨p, vs, ?_, h2, h3, h4⟩
  cases hz : σ[i]? with
  | none => rw [hz] at h1; cases h1
  | some o => rw [hz] at h1; exact congrArg some h1
/-- xs[j] = x, xs an owned list -/
theorem gs_sub {i : Nat} {ti : TE} {d : PyData} {ds : List PyData} {k : List Slot → Prop} (hi : δ[i]? = some (.own ds)) (h : EvC K ti δ fun y => ∃ (n : Int) (j : Nat), y = .dat (.int n) ∧ ixN ds.length n = some j ∧ k (δ.set i (.own (ds.set j d)))) :
    GS K (gSub (tVar i) ti rSetL) (.dat d) δ k := by
  intro B H H1 σ v R e o Q q
  have R1 := R.grow e
  obtain ⟨p, vs, hp, hb, hv, im⟩ := slot_own R1 hi
  refine ⟨_, hp, h B H1 σ R1 _ fun y H2 ry e2 oy ⟨n, j, hy, hn, hk⟩ => ?_⟩
  subst hy
  cases oy
  have hv2 := e2 _ _ hv
  have im2 := im.to (per_same e2)
  refine ⟨p, vs, n, j, rfl, rfl, hv2, by rw [im2.length]; exact hn, ?_⟩
  exact q _ _ _ ((R1.grow e2).mut hi hp hv2 (ImAll.set (Im.to o (per_same e2)) j im2)) ((per_same e2).trans (per_upd hv2 rfl)) hk

/-! ## statements -/
theorem sd_seq {t u : TS} (h : SD K t ⟨fun δ' => SD K u ⟨nx, rt, bk, ct⟩ δ', rt, bk, ct⟩ δ) : SD K (tSeq t u) ⟨nx, rt, bk, ct⟩ δ := by
  intro B H σ R E C
  exact h B H σ R { E with nx := u E } ⟨fun σ' H' δ' R' hu => hu B H' σ' R' E C, C.rt, C.bk, C.ct⟩
theorem sd_next (h : nx δ) : SD K tNext ⟨nx, rt, bk, ct⟩ δ := fun B H σ R E C => C.nx σ H δ R h
theorem sd_break (h : bk δ) : SD K tBreak ⟨nx, rt, bk, ct⟩ δ := fun B H σ R E C => C.bk σ H δ R h
theorem sd_cont (h : ct δ) : SD K tCont ⟨nx, rt, bk, ct⟩ δ := fun B H σ R E C => C.ct σ H δ R h
theorem sd_asg {g : TG} (h : EvC K te δ fun x => GS K g x δ nx) : SD K (tAsg te g) ⟨nx, rt, bk, ct⟩ δ := by
  intro B H σ R E C
  refine h B H σ R _ fun v H1 x e o gx => ?_
  exact gx B H H1 σ v R e o _ fun σ' H' δ' R' _ kd => C.nx _ _ _ R' kd
theorem sd_par {i j : Nat} {ta tb : TE} (h : EvC K ta δ fun x => EvC K tb δ fun y => nx ((δ.set i (sto x)).set j (sto y))) : SD K (tPar i j (tCons ta (tCons tb tNil))) ⟨nx, rt, bk, ct⟩ δ := by
  intro B H σ R E C
  refine h B H σ R _ fun v H1 x e1 o1 g1 => ?_
  refine g1 B H1 σ (R.grow e1) _ fun w H2 y e2 o2 g2 => ?_
  refine ⟨v, w, rfl, C.nx _ _ _ (Rel.set (H := H1) ?_ e2 o2 (R.same.trans e1) fun _ _ => Same.refl H1) g2⟩
  exact R.set (i := i) e1 o1 R.same fun _ _ => Same.refl H
theorem sd_par3 {i j l : Nat} {ta tb tc : TE} (h : EvC K ta δ fun x => EvC K tb δ fun y => EvC K tc δ fun z => nx (((δ.set i (sto x)).set j (sto y)).set l (sto z))) : SD K (tPar3 i j l (tCons ta (tCons tb (tCons tc tNil)))) ⟨nx, rt, bk, ct⟩ δ := by
  intro B H σ R E C
  refine h B H σ R _ fun v H1 x e1 o1 g1 => ?_
  refine g1 B H1 σ (R.grow e1) _ fun w H2 y e2 o2 g2 => ?_
  refine g2 B H2 σ (R.grow (e1.trans e2)) _ fun u H3 z e3 o3 g3 => ?_
  refine ⟨v, w, u, rfl, C.nx _ _ _ (Rel.set (H := H2) ?_ e3 o3 ((R.same.trans e1).trans e2) fun _ _ => Same.refl H2) g3⟩
  refine Rel.set (H := H1) ?_ e2 o2 (R.same.trans e1) fun _ _ => Same.refl H1
  exact R.set (i := i) e1 o1 R.same fun _ _ => Same.refl H
theorem sd_ret (h : EvC K te δ rt) : SD K (tRet te) ⟨nx, rt, bk, ct⟩ δ := by
  intro B H σ R E C
  exact h B H σ R _ fun v H1 x e o hx => C.rt v H1 x (R.same.trans e) (o.from_ R.same) hx
/-- return xs, an owned list: it is the caller's from now on -/
theorem sd_retOwn {i : Nat} {ds : List PyData} (hi : δ[i]? = some (.own ds)) (h : rt (.fresh ds)) : SD K (tRet (tVar i)) ⟨nx, rt, bk, ct⟩ δ := by
  intro B H σ R E C
  obtain ⟨p, vs, hp, hb, hv, im⟩ := slot_own R hi
  exact ⟨_, hp, C.rt _ H _ R.same (rFresh hb hv im) h⟩
theorem sd_retN (h : rt (.dat .none)) : SD K tRetN ⟨nx, rt, bk, ct⟩ δ := fun B H σ R E C => C.rt _ H _ R.same rNon h
theorem sd_drop (h : EvC K te δ fun _ => nx δ) : SD K (tDrop te) ⟨nx, rt, bk, ct⟩ δ := by
  intro B H σ R E C
  exact h B H σ R _ fun v H1 x e o hx => C.nx σ H1 δ (R.grow e) hx
theorem sd_if {tc : TT} {t u : TS} (h : EvT K tc δ fun b => Br b (SD K t ⟨nx, rt, bk, ct⟩ δ) (SD K u ⟨nx, rt, bk, ct⟩ δ)) : SD K (tIfS tc t u) ⟨nx, rt, bk, ct⟩ δ := by
  intro B H σ R E C
  refine h B H σ R _ fun b H1 e p => ?_
  cases b with
  | true => exact p.1 rfl B H1 σ (R.grow e) E C
  | false => exact p.2 rfl B H1 σ (R.grow e) E C
theorem sd_wk {t : TS} {δ' : List Slot} (w : Wk δ δ') (h : SD K t ⟨nx, rt, bk, ct⟩ δ') : SD K t ⟨nx, rt, bk, ct⟩ δ := fun B H σ R E C => h B H σ (R.wk w) E C
/-- what follows is shown once -/
theorem sd_mid {t u : TS} (M : List Slot → Prop) (h : SD K t ⟨M, rt, bk, ct⟩ δ) (h2 : ∀ δ', M δ' → SD K u ⟨nx, rt, bk, ct⟩ δ') : SD K (tSeq t u) ⟨nx, rt, bk, ct⟩ δ :=
  sd_seq fun B H σ R E C => h B H σ R E ⟨fun σ' H' δ' R' hm => C.nx σ' H' δ' R' (h2 δ' hm), C.rt, C.bk, C.ct⟩
def tFrzS (t : TS) : TS := fun D σ H => t D σ H ∨ ∃ p xs, H p = some (.lst xs) ∧ ∀ o, t D σ (upd H p (.frz o (.lst xs)))
theorem pss_frz {X : Cx} {l : List Stmt} {t : TS} (h : PSs X l t) : PSs X l (tFrzS t) := by
  refine ⟨fun pins s σ H D I hq => ?_⟩
  rcases hq with hq | ⟨p, xs, hp, hq⟩
  · exact h.run pins s σ H D I hq
  · obtain ⟨o, I2⟩ := I.lock hp trivial
    exact h.run pins s σ _ D I2 (hq o)
theorem sd_frz {i : Nat} {ds : List PyData} {t : TS} (hi : δ[i]? = some (.own ds)) (h : SD K t ⟨nx, rt, bk, ct⟩ (δ.set i (.dat (.list ds)))) : SD K (tFrzS t) ⟨nx, rt, bk, ct⟩ δ := by
  intro B H σ R E C
  obtain ⟨p, vs, hp, hb, hv, im⟩ := slot_own R hi
  exact .inr ⟨p, vs, hv, fun o => h B _ σ (R.frz hi hp hv im) E C⟩
theorem sd_nofrz {t : TS} (h : SD K t ⟨nx, rt, bk, ct⟩ δ) : SD K (tFrzS t) ⟨nx, rt, bk, ct⟩ δ := fun B H σ R E C => .inl (h B H σ R E C)

/-! ### methods of an owned list -/
theorem sd_append {i : Nat} {ds : List PyData} (hi : δ[i]? = some (.own ds)) (hz : ds.length < 1000000) (h : EvC K te δ fun x => ∃ d, x = .dat d ∧ nx (δ.set i (.own (ds ++ [d])))) :
    SD K (tDrop (tBM K "list" rAppend (tVar i) (tCons te tNil))) ⟨nx, rt, bk, ct⟩ δ := by
  intro B H σ R E C
  obtain ⟨p, vs, hp, hb, hv, im⟩ := slot_own R hi
  refine ⟨_, hp, .inl ⟨rfl, vs, SqL.of hv⟩, h B H σ R _ fun x H1 rx e o ⟨d, hx, hk⟩ => ?_⟩
  subst hx
  have hv1 := e _ _ hv
  have im1 := im.to (per_same e)
  exact ⟨p, vs, x, rfl, rfl, hv1, by rw [im.length]; exact Nat.lt_trans hz (by decide), C.nx _ _ _ ((R.grow e).mut hi hp hv1 (im1.append (.one o))) hk⟩
theorem sd_extend {i : Nat} {ds : List PyData} (hi : δ[i]? = some (.own ds)) (h : EvC K te δ fun x => ∃ es, x.mine = some es ∧ ds.length + es.length ≤ sizeLine ∧ nx (δ.set i (.own (ds ++ es)))) :
    SD K (tDrop (tBM K "list" rExtend (tVar i) (tCons te tNil))) ⟨nx, rt, bk, ct⟩ δ := by
  intro B H σ R E C
  obtain ⟨p, vs, hp, hb, hv, im⟩ := slot_own R hi
  refine ⟨_, hp, .inl ⟨rfl, vs, SqL.of hv⟩, h B H σ R _ fun x H1 rx e o ⟨es, hx, hl, hk⟩ => ?_⟩
  have hv1 := e _ _ hv
  have im1 := im.to (per_same e)
  obtain ⟨q, ws, rfl, h1, h2⟩ := o.listM hx
  exact ⟨p, q, vs, ws, rfl, rfl, hv1, h1, by rw [im.length, h2.length]; exact hl, C.nx _ _ _ ((R.grow e).mut hi hp hv1 (im1.append h2)) hk⟩
/-- x = xs.pop() -/
theorem sd_pop {i j : Nat} {ds : List PyData} {d : PyData} (hi : δ[i]? = some (.own ds)) (hd : ds[ds.length - 1]? = some d) (h : nx ((δ.set i (.own ds.dropLast)).set j (.dat d))) :
    SD K (tAsg (tBM0 K "list" rPop (tVar i)) (gName j)) ⟨nx, rt, bk, ct⟩ δ := by
  intro B H σ R E C
  obtain ⟨p, vs, hp, hb, hv, im⟩ := slot_own R hi
  obtain ⟨v, h1, h2⟩ := im.get hd
  refine ⟨_, hp, .inl ⟨rfl, vs, SqL.of hv⟩, p, vs, v, rfl, rfl, hv, by rw [im.length]; exact h1, ?_⟩
  have R1 := R.mut hi hp hv im.dropLast
  exact C.nx _ _ _ (Rel.set (x := .dat d) (H0 := upd H p (.lst vs.dropLast)) R1 (Same.refl _) (Im.to h2 (per_upd hv rfl)) R1.same fun _ z => nomatch z) h
/-- n op= e -/
theorem sd_aug {i : Nat} {f : Int → Int → Int} {a : Int} (hi : δ[i]? = some (.dat (.int a))) (h : EvC K te δ fun x => ∃ b, x = .dat (.int b) ∧ nx (δ.set i (.dat (.int (f a b))))) : SD K (tAug i te (ipI f)) ⟨nx, rt, bk, ct⟩ δ := by
  intro B H σ R E C
  obtain ⟨v, h1, h2⟩ := R.at_ i _ hi
  have hσ : σ[i]? = some (some v) := by
    cases hz : σ[i]? with
    | none => rw [hz] at h1; cases h1
    | some o => rw [hz] at h1; exact congrArg some h1
  refine ⟨v, hσ, h B H σ R _ fun y H1 ry e o ⟨b, hy, hk⟩ => ?_⟩
  subst hy
  cases o
  cases h2
  exact ⟨a, b, rfl, rfl, C.nx _ _ _ (R.set (x := .dat (.int _)) (H0 := H1) e (Im.int _) (R.same.trans e) fun _ z => nomatch z) hk⟩

/-! ## loops -/
/-- the base grows by what never changes -/
def core (B H : Hp) : Hp := fun a => match H a with
  | some o => if keeps o then some o else B a
  | none => B a
theorem core_sub (e : Same B H) : Same (core B H) H := fun a o h => by
  unfold core at h
  cases hz : H a with
  | none =>
    rw [hz] at h
    have := e a o h
    rw [hz] at this
    cases this
  | some u =>
    rw [hz] at h
    dsimp only at h
    split at h
    · exact h
    · have := e a o h
      rwa [hz] at this
theorem core_up (e : Same B H) : Same B (core B H) := fun a o h => by
  have h1 := e a o h
  unfold core
  rw [h1]
  dsimp only
  split
  · rfl
  · exact h
theorem core_per : Per H (core B H) := fun a o h k => by
  unfold core
  rw [h]
  dsimp only
  rw [if_pos k]
theorem core_or (e : Same B H) {a : Addr} {o : HO} (h : core B H a = some o) : B a = some o ∨ keeps o = true := by
  unfold core at h
  cases hz : H a with
  | none => rw [hz] at h; exact .inl h
  | some u =>
    rw [hz] at h
    dsimp only at h
    split at h
    · rename_i hk
      cases h
      exact .inr hk
    · exact .inl h
/-- B' is B and things that never change -/
def Up (B B' : Hp) : Prop := Same B B' ∧ ∀ a o, B' a = some o → B a = some o ∨ keeps o = true
theorem core_Up (e : Same B H) : Up B (core B H) := ⟨core_up e, fun _ _ h => core_or e h⟩
theorem SqB.up {p : Addr} {xs : List V} (u : Up B B') (e : Same B' H) (h : SqB K B' H p xs) : SqB K B H p xs := by
  rcases h with h | h
  · rcases h with (h | ⟨o, h⟩) | h
    · rcases u.2 _ _ h with q | q
      · exact .inl (.inl (.inl q))
      · cases q
    · exact .inr ⟨o, e _ _ h⟩
    · exact .inl (.inr h)
  · exact .inr h
theorem Rel.down (R : Rel K B' H σ δ) (u : Up B B') : Rel K B H σ δ := by
  refine ⟨u.1.trans R.same, R.len, fun i s hs => ?_, R.apart⟩
  have h0 := R.at_ i s hs
  cases s with
  | any => trivial
  | dat d => exact h0
  | lst es =>
    obtain ⟨q, us, h1, h2, h3⟩ := h0
    exact ⟨q, us, h1, h2.up u R.same, h3⟩
  | own es =>
    obtain ⟨q, us, h1, h2, h3⟩ := h0
    exact ⟨q, us, h1, u.1.free h2, h3⟩
  | bag => exact h0
theorem Rel.up (R : Rel K B H σ δ) : Rel K (core B H) H σ δ := by
  have e := R.same
  refine ⟨core_sub e, R.len, fun i s hs => ?_, R.apart⟩
  have h0 := R.at_ i s hs
  cases s with
  | any => trivial
  | dat d => exact h0
  | lst es =>
    obtain ⟨q, us, h1, h2, h3⟩ := h0
    exact ⟨q, us, h1, h2.elim (fun z => .inl (sql_same (core_up e) z)) .inr, h3⟩
  | own es =>
    obtain ⟨q, us, h1, h2, h3, h4⟩ := h0
    refine ⟨q, us, h1, ?_, h3, h4⟩
    cases hz : core B H q with
    | none => rfl
    | some o =>
      rcases core_or e hz with z | z
      · rw [h2] at z; cases z
      · have := core_sub e _ _ hz
        rw [h3] at this
        cases this
        cases z
  | bag => exact h0
theorem ResOk.up {v : V} {r : Res} (u : Up B B') (e : Same B' H) (h : ResOk K B' B' H v r) : ResOk K B B H v r := by
  cases r with
  | dat d => exact h
  | bor ds =>
    obtain ⟨p, vs, h1, h2, h3⟩ := h
    exact ⟨p, vs, h1, h2.up u e, h3⟩
  | len ds => exact h
  | fresh ds =>
    obtain ⟨p, vs, h1, h2, h3⟩ := h
    exact ⟨p, vs, h1, u.1.free h2, h3⟩
  | bag => exact h
theorem Cn.up {E : Ends} (C : Cn K B D E) (u : Up B B') : Cn K B' D E :=
  ⟨fun σ H δ R h => C.nx σ H δ (R.down u) h, fun v H r e o h => C.rt v H r (u.1.trans e) (o.up u e) h, fun σ H δ R h => C.bk σ H δ (R.down u) h, fun σ H δ R h => C.ct σ H δ (R.down u) h⟩
/-- J walks ds while what G0 tells stands -/
def WalkOk (K : PySem.W.Frag) (G0 : Hp) (J : It) (ds : List PyData) : Prop := ∃ Y : Nat → Hp → V → Hp → Prop, Walk J ds.length (fun H => Same G0 H) Y ∧
  ∀ i H x H', i < ds.length → Same G0 H → Y i H x H' → Same H H' ∧ ∃ d, ds[i]? = some d ∧ Im K H' x d
theorem WalkOk.mono {J : It} {ds : List PyData} {G0 G1 : Hp} (e : Same G0 G1) (w : WalkOk K G0 J ds) : WalkOk K G1 J ds := by
  obtain ⟨Y, h1, h2⟩ := w
  exact ⟨Y, h1.mono (fun H h => e.trans h) (fun i H x H' _ _ y => y), fun i H x H' hi h y => h2 i H x H' hi (e.trans h) y⟩
/-- what a for walks -/
def ItL (K : PySem.W.Frag) (wi : TI) (δ : List Slot) (k : List PyData → Prop) : Prop :=
  ∀ (B H : Hp) (σ : St), Rel K B H σ δ → ∀ R : It → Hp → Prop, (∀ J H' ds, Same H H' → WalkOk K (core B H') J ds → k ds → R J H') → wi σ H R
/-- what a comprehension walks -/
def ItE (K : PySem.W.Frag) (wi : TI) (δ : List Slot) (k : List PyData → Prop) : Prop :=
  ∀ (B H : Hp) (σ : St), Rel K B H σ δ → ∀ R : It → Hp → Prop, (∀ J H' ds, Same H H' → WalkOk K H' J ds → k ds → R J H') → wi σ H R
theorem ItL.toE {wi : TI} {k : List PyData → Prop} (h : ItL K wi δ k) : ItE K wi δ k := fun B H σ R Rr q =>
  h B H σ R Rr fun J H' ds e w kd => q J H' ds e (w.mono (core_sub (R.same.trans e))) kd
/-- the loop over ds: I by the turn and its datum, the slots by the datum -/
def ForP (K : PySem.W.Frag) (ds : List PyData) (g : TG) (tb : TS) (nx : List Slot → Prop) (rt : Res → Prop) (δ : List Slot) : Prop :=
  ∃ (α : Type) (I : Nat → α → Prop) (δI : α → List Slot), (∃ a, I 0 a ∧ Wk δ (δI a)) ∧
    (∀ i a d, ds[i]? = some d → I i a → GS K g (.dat d) (δI a) fun δ' => SD K tb ⟨fun δ2 => ∃ a', I (i + 1) a' ∧ Wk δ2 (δI a'), rt, nx, fun δ2 => ∃ a', I (i + 1) a' ∧ Wk δ2 (δI a')⟩ δ') ∧
    ∀ a, I ds.length a → nx (δI a)
theorem sd_for {wi : TI} {g : TG} {tb : TS} (h : ItL K wi δ fun ds => ForP K ds g tb nx rt δ) : SD K (tFor wi g tb) ⟨nx, rt, bk, ct⟩ δ := by
  intro B H σ R E C
  refine h B H σ R _ fun J H1 ds e ⟨Y, w, y⟩ fp => ?_
  obtain ⟨α, I, δI, ⟨a0, i0, w0⟩, turn, fin⟩ := fp
  have R1 : Rel K (core B H1) H1 σ δ := (R.grow e).up
  have u : Up B (core B H1) := core_Up (R.same.trans e)
  have C1 := C.up u
  refine for_it w (fun i σ' H' => ∃ a, I i a ∧ Rel K (core B H1) H' σ' (δI a)) ⟨a0, i0, R1.wk w0⟩ (fun i σ' H' _ ⟨a, _, R'⟩ => R'.same) ?_ fun σ' H' ⟨a, ia, R'⟩ => C1.nx _ _ _ R' (fin a ia)
  rintro i x σ' H' H2 hi ⟨a, ia, R'⟩ hy
  obtain ⟨e2, d, hd, im⟩ := y i H' x H2 hi R'.same hy
  refine turn i a d hd ia (core B H1) H' H2 σ' x R' e2 im _ fun σ3 H3 δ3 R3 _ sd => ?_
  refine sd (core B H1) H3 σ3 R3 _ ⟨?_, C1.rt, C1.nx, ?_⟩
  · rintro σ4 H4 δ4 R4 ⟨a', ia', wk⟩
    exact ⟨a', ia', R4.wk wk⟩
  · rintro σ4 H4 δ4 R4 ⟨a', ia', wk⟩
    exact ⟨a', ia', R4.wk wk⟩
theorem sd_while {tc : TT} {tb : TS} {α : Type} (I : α → Prop) (δI : α → List Slot) (μ : α → Nat) (h0 : ∃ a, I a ∧ Wk δ (δI a))
    (turn : ∀ a, I a → EvT K tc (δI a) fun b => Br b (SD K tb ⟨fun δ2 => ∃ a', (I a' ∧ μ a' < μ a) ∧ Wk δ2 (δI a'), rt, nx, fun δ2 => ∃ a', (I a' ∧ μ a' < μ a) ∧ Wk δ2 (δI a')⟩ (δI a)) (nx (δI a))) :
    SD K (tWhile tc tb) ⟨nx, rt, bk, ct⟩ δ := by
  intro B H σ R E C
  obtain ⟨a0, i0, w0⟩ := h0
  refine ⟨fun m σ' H' => ∃ a, I a ∧ μ a = m ∧ Rel K B H' σ' (δI a), ⟨μ a0, a0, i0, rfl, R.wk w0⟩, ?_⟩
  rintro m σ' H' ⟨a, ia, rfl, R'⟩
  refine turn a ia B H' σ' R' _ fun b H1 e p => ?_
  cases b with
  | true =>
    rw [if_pos rfl]
    refine ⟨fun σ2 H2 => ∃ a', I a' ∧ μ a' < μ a ∧ Rel K B H2 σ2 (δI a'), fun σ2 H2 ⟨a', h1, h2, h3⟩ => ⟨μ a', h2, a', h1, rfl, h3⟩, ?_⟩
    refine p.1 rfl B H1 σ' (R'.grow e) _ ⟨?_, C.rt, C.nx, ?_⟩
    · rintro σ4 H4 δ4 R4 ⟨a', ⟨h1, h2⟩, wk⟩
      exact ⟨a', h1, h2, R4.wk wk⟩
    · rintro σ4 H4 δ4 R4 ⟨a', ⟨h1, h2⟩, wk⟩
      exact ⟨a', h1, h2, R4.wk wk⟩
  | false =>
    rw [if_neg Bool.false_ne_true]
    exact C.nx _ _ _ (R'.grow e) (p.2 rfl)

/-! ## comprehensions -/
def wipeS (δ : List Slot) : List Nat → List Slot
  | [] => δ
  | v :: vs => (wipeS δ vs).set v .any
theorem wk_set : ∀ (δ : List Slot) (v : Nat), Wk δ (δ.set v .any)
  | [], _ => .nil
  | _ :: r, 0 => .any (Wk.refl r)
  | _ :: r, v + 1 => .same (wk_set r v)
theorem Rel.wipe1 {v : Nat} (R : Rel K B H σ δ) : Rel K B H (σ.set v none) (δ.set v .any) := by
  have R' := R.wk (wk_set δ v)
  refine ⟨R.same, by rw [List.length_set]; exact R'.len, fun i s hs => ?_, fun i j s t p hij hi hj si sj hpi => ?_⟩
  · by_cases hv : v = i
    · subst hv
      have hi : v < δ.length := by
        have := (List.getElem?_eq_some_iff.mp hs).1
        rwa [List.length_set] at this
      rw [List.getElem?_set_self hi] at hs
      cases hs
      trivial
    · rw [List.getElem?_set_ne hv]
      exact R'.at_ i s hs
  · have un : ∀ (m : Nat) (u : Slot), (δ.set v .any)[m]? = some u → isOwn u = true → v ≠ m := fun m u hm su z => by
      subst z
      have hl : v < δ.length := by
        have := (List.getElem?_eq_some_iff.mp hm).1
        rwa [List.length_set] at this
      rw [List.getElem?_set_self hl] at hm
      cases hm
      cases su
    rw [List.getElem?_set_ne (un i s hi si)] at hpi
    rw [List.getElem?_set_ne (un j t hj sj)]
    exact R'.apart i j s t p hij hi hj si sj hpi
theorem Rel.wipe (R : Rel K B H σ δ) : ∀ vs : List Nat, Rel K B H (L2.wipe σ vs) (wipeS δ vs)
  | [] => R
  | v :: vs => (R.wipe vs).wipe1
theorem wipe_get {σ : St} {i : Nat} : ∀ {vs : List Nat}, i ∈ vs → i < σ.length → (L2.wipe σ vs)[i]? = some none
  | [], h, _ => absurd h List.not_mem_nil
  | v :: vs, h, hl => by
    show ((L2.wipe σ vs).set v none)[i]? = some none
    by_cases hv : v = i
    · subst hv
      rw [List.getElem?_set_self (by rw [wipe_length]; exact hl)]
    · rw [List.getElem?_set_ne hv]
      rcases List.mem_cons.mp h with z | z
      · exact absurd z.symm hv
      · exact wipe_get z hl
theorem wipe_keep {σ : St} {i : Nat} : ∀ {vs : List Nat}, i ∉ vs → (L2.wipe σ vs)[i]? = σ[i]?
  | [], _ => rfl
  | v :: vs, h => by
    show ((L2.wipe σ vs).set v none)[i]? = _
    rw [List.getElem?_set_ne fun z => h (by rw [z]; exact List.mem_cons_self)]
    exact wipe_keep fun z => h (List.mem_cons_of_mem _ z)
theorem wipe_eq {σ σ2 : St} {vs : List Nat} (hl : σ2.length = (L2.wipe σ vs).length) (h : ∀ i, ¬ i ∈ vs → σ2[i]? = (L2.wipe σ vs)[i]?) : L2.wipe σ2 vs = L2.wipe σ vs := by
  refine List.ext_getElem? fun i => ?_
  rw [wipe_length] at hl
  by_cases hi : i ∈ vs
  · by_cases hlt : i < σ.length
    · rw [wipe_get hi hlt, wipe_get hi (by rw [hl]; exact hlt)]
    · rw [List.getElem?_eq_none (by rw [wipe_length]; omega), List.getElem?_eq_none (by rw [wipe_length]; omega)]
  · rw [wipe_keep hi, h i hi]
/-- the comprehension over ds -/
def LcP (K : PySem.W.Frag) (ds : List PyData) (g : TG) (tt : TT) (te : TE) (vs : List Nat) (δ : List Slot) (k : Res → Prop) : Prop :=
  ∃ I : Nat → List PyData → Prop, I 0 [] ∧ ds.length ≤ 1000000 ∧
    (∀ i d acc, ds[i]? = some d → I i acc → GE K g (.dat d) (wipeS δ vs) (fun j => j ∈ vs) fun δ' => EvT K tt δ' fun b => Br b (EvC K te δ' fun r => ∃ e, r = .dat e ∧ I (i + 1) (acc ++ [e])) (I (i + 1) acc)) ∧
    ∀ out, I ds.length out → k (.fresh out)
theorem ec_lc {wi : TI} {g : TG} {tt : TT} {vs : List Nat} {k : Res → Prop} (h : ItE K wi δ fun ds => LcP K ds g tt te vs δ k) : EvC K (tLc wi g tt te vs) δ k := by
  intro B H σ R Q q
  refine h B H σ R _ fun J H1 ds e ⟨Y, w, y⟩ lp => ?_
  obtain ⟨I, i0, hz, turn, fin⟩ := lp
  intro a ha
  refine lc_it w (fun i H' => ∃ acc us, I i acc ∧ H' a = some (.lst us) ∧ ImAll K H' us acc ∧ Same H1 H' ∧ acc.length ≤ i) ⟨[], [], i0, upd_same, .nil, same_new ha, Nat.le_refl _⟩ (fun i H' _ ⟨_, _, _, _, _, s, _⟩ => s) ?_ ?_
  · rintro i x H' H2 hi ⟨acc, us, ia, hD, im, s, hl⟩ hy
    obtain ⟨e2, d, hd, ix⟩ := y i H' x H2 hi s hy
    have R' : Rel K B H' (L2.wipe σ vs) (wipeS δ vs) := (R.grow (e.trans s)).wipe vs
    refine turn i d acc hd ia B H' H2 _ x R' e2 ix _ fun σ3 δ3 R3 hl3 hw3 et => ?_
    refine ⟨wipe_eq hl3 hw3, et B H2 σ3 R3 _ fun b H3 e3 p => ?_⟩
    have hD3 := e3 _ _ (e2 _ _ hD)
    have s3 := (s.trans e2).trans e3
    have im3 := im.to (per_same (e2.trans e3))
    cases b with
    | true =>
      rw [if_pos rfl]
      refine p.1 rfl B H3 σ3 (R3.grow e3) _ fun v H4 r e4 o ⟨z, hr, iz⟩ => ?_
      subst hr
      have hD4 := e4 _ _ hD3
      have per : Per H4 (upd H4 a (.lst (us ++ [v]))) := per_upd hD4 rfl
      refine ⟨us, hD4, by rw [im.length]; exact Nat.lt_of_le_of_lt (Nat.le_trans hl (Nat.le_of_lt (Nat.lt_of_lt_of_le hi hz))) (by decide), acc ++ [z], us ++ [v], iz, upd_same, ((im3.to (per_same e4)).append (.one o)).to per, fun b o hb => ?_, ?_⟩
      · rw [upd_ne (ne_of_none hb ha)]
        exact e4 _ _ (s3 _ _ hb)
      · rw [List.length_append]
        exact Nat.succ_le_succ hl
    | false =>
      rw [if_neg Bool.false_ne_true]
      exact ⟨acc, us, p.2 rfl, hD3, im3, s3, Nat.le_succ_of_le hl⟩
  · rintro H' ⟨acc, us, ia, hD, im, s, hl⟩
    exact q _ H' _ (e.trans s) (rFresh (e.free ha) hD im) (fin acc ia)
end
end Dl

/-! own layer, defs and calls, repr, what is walked, the end -/
namespace Dl
open PySem PySem.Spec L2

/-! ## defs, where no guard stands around -/
structure FnG (P : Program) (w : World) (K : PySem.W.Frag) (mg : Str → Option Value) (base : Heap) (CX : CXT) (n : Nat) (f : Addr) (fd : FuncData) (ps : List Str) (sp : Sp) : Prop where
  len : ∀ vs H Q E, sp vs H Q E → vs.length = ps.length
  run : ∀ (A : Around) (outer : List Env) (s : Shared) (H : Hp) (args : Args) (us : List Value) (vs : List V) (Q : VK) (E : XK), A.guards = some [] → Room n A →
    Env0 P w K mg base A outer s H → BindsTo s fd args (ps.zip us) → Vals vs us → sp vs H Q E → codeAny (model P w) A (.call (.ref f) args) (CR CX outer P w H s Q E) s
section
variable {P : Program} {w : World} {K : PySem.W.Frag} {mg : Str → Option Value} {base : Heap} {CX : CXT}
theorem FnG.mono {i j : Nat} {f : Addr} {fd : FuncData} {ps : List Str} {sp : Sp} (F : FnG P w K mg base CX i f fd ps sp) (h : i ≤ j) : FnG P w K mg base CX j f fd ps sp :=
  ⟨F.len, fun A outer s H args us vs Q E hg hr => F.run A outer s H args us vs Q E hg (hr.mono h)⟩
theorem Fun.okG {x qual : Str} {st : Stmt} {f : Addr} {fd : FuncData} {N ps : List Str} {n : Nat} {sp : Sp} (F : Fun K x qual st f fd) (S : FnScope N ps (defScope st)) (hlen : ∀ vs H Q E, sp vs H Q E → vs.length = ps.length)
    (body : ∀ (cdv : Value) (A : Around) (outer : List Env) (s : Shared) (H : Hp) (vs : List V) (Q : VK) (E : XK), A.guards = some [] → Room n (A.deeper (PyProof.Rows.envOfC qual (defScope st) s.heap.objs.size f cdv)) → sp vs H Q E →
      ∃ t, PSs (cxOf CX P w K mg base N qual (defScope st) f cdv A outer s H E) (defBody st) t ∧ t { nx := fun _ H' => Q .non H', rt := Q } (start N vs) H) : FnG P w K mg base CX (n + 1) f fd ps sp := by
  obtain ⟨oc, od, kV, doc, pm, an, cdv, ct, osl, rfl, lk, hcd⟩ := F.ex
  refine ⟨hlen, fun A outer s H args us vs Q E hg hr e0 hb rv hs => ?_⟩
  have nvs := hlen _ _ _ _ hs
  have kin : K.In s.heap := e0.mod.kin.keeps fun b o q => (e0.bs b o q).1
  have nolim : s.heap.NoLimit := e0.mod.nolimit.keeps fun b o q => (e0.bs b o q).1
  have kinds : ∀ y ∈ ps.zip us, (defScope st).names.lookup y.1 = some .local ∨ ((defScope st).names.lookup y.1 = some .cell ∧ ((cellsFrom (s.heap.objs.size + 1) (defScope st).names []).lookup y.1).isSome = true) := by
    rintro ⟨m, v⟩ hy
    rcases S.par m (List.of_mem_zip hy).1 with q | q
    · exact .inl q
    · exact .inr ⟨q, PySem.W.cellsFrom_some _ _ _ (.inl q)⟩
  refine codeAny_call_function hr.depth (kin _ _ lk) rfl S.co S.gen rfl (PySem.W.codeRec_of kin hcd) (hb _ _ _ _ ?_)
  refine wpAny_newFunctionEnv_cells S.kind kinds fun env henv s1 icc => ?_
  subst henv
  refine ⟨nolim.keeps icc.toInCall.keep, codeAny_func ?_⟩
  obtain ⟨t, pt, ht⟩ := body cdv A outer s H vs Q E hg (hr.deeper _) hs
  have I0 : Inv (cxOf CX P w K mg base N qual (defScope st) f cdv A outer s H E) [] (start N vs) H s1 := inv_start S hr.hd e0 nvs rv icc
  have back : ∀ {σ' : L2.St} {H' : Hp} {v : V} {u : Value} {s' : Shared}, Inv (cxOf CX P w K mg base N qual (defScope st) f cdv A outer s H E) [] σ' H' s' → RelV v u → Q v H' → CE outer P w H s Q u s' :=
    fun {σ' H' v u s'} J rel q => ⟨v, H', J.os, J.bare, J.base, J.hok, rel, q⟩
  refine wpAny_mono (pt.run [] s1 (start N vs) H _ I0 ht) (fun fl s' hs' => ?_) fun _ _ z => z
  match fl, hs' with
  | .ret u, ⟨v, σ', H', J, rel, q⟩ => exact back J rel q
  | .next, ⟨σ', H', J, q⟩ => exact back (v := V.non) (u := Value.none) J rfl q
  | .brk, ⟨_, _, _, q⟩ => exact q.elim
  | .cont, ⟨_, _, _, q⟩ => exact q.elim
end
section
variable {X : Cx} {CX : CXT} {n : Nat} {f : Addr} {fd : FuncData} {ps : List Str} {sp : Sp} {dvs : List V} {ds : List Value} {E : XK} {x : Str} {p pos : Pos} {e : Expr} {es : List Expr} {t : TA}
theorem run_g {pins : List (Addr × Obj)} {σ : L2.St} {H : Hp} {s : Shared} {Q : VK} {us : List Value} {vs : List V} (F : FnG X.prog X.w X.K X.mg X.base CX n f fd ps sp) (hG : X.A.guards = some []) (hr : Room n X.A) (hb : Binds X.K fd ps ds) (hd : Vals dvs ds) (hx : Passes CX X E)
    (I : Inv X pins σ H s) (rv : Vals vs us) (h : sp (vs ++ dvs) H Q E) : wpAny (model X.prog X.w) X.A (call (.ref f) us) (EP X pins σ Q) X.xe s := by
  have r2 := rv.append hd
  have nn : (us ++ ds).length = ps.length := r2.length.symm.trans (F.len _ _ _ _ h)
  refine wpAny_call (codeAny_mono (F.run X.A X.stack s H ⟨us, []⟩ (us ++ ds) (vs ++ dvs) Q E hG hr I.env0 (hb s us I.kIn nn) r2 h) fun r s' hq => ?_)
  match r, hq with
  | .error z, hq => exact hx pins σ H s z s' I hq
  | .ok (.ret u), hq => exact I.after hq
/-- f(e, ..), f a def of the text -/
theorem pe_g (F : FnG X.prog X.w X.K X.mg X.base CX n f fd ps sp) (hG : X.A.guards = some []) (hr : Room n X.A) (hm : X.mg x = some (.ref f)) (hk : PySem.W.keepIn X.K (.ref f) = true) (hb : Binds X.K fd ps ds) (hd : Vals dvs ds) (hx : Passes CX X E)
    (ha : PA X (e :: es) t) (hg : Gl X x := by rfl) (hdb : (x == ("__debug__" : Str)) = false := by decide) (he : starEach (e :: es) X.env = (false, eval e X.env) :: starEach es X.env := by rfl) (hpl : (backTo pos (starEach es X.env)).any (·.1) = false := by rfl) :
    PE X (.Call (.Name x p) (e :: es) [] pos) (tCall sp dvs E t) := by
  refine ⟨fun pins s σ H Q I h => ?_⟩
  refine wpAny_Call_Name_kw (ld_glob I hg hm ?_ hdb)
  exact PySem.W.callWith_K (h₀ := X.base) I.ok.mod.kin hk (thn (ha.run pos pins s σ H _ I h) fun us s1 ⟨vs, H1, I1, rv, q⟩ => ⟨I1.kIn, run_g F hG hr hb hd hx I1 rv q⟩) he hpl
end

/-! ## promises over abstract data -/
def ArgOk (K : PySem.W.Frag) (H : Hp) (v : V) : Res → Prop
  | .dat d => Im K H v d
  | .bor ds => ∃ p vs, v = .ref p ∧ SqL K H p vs ∧ ImAll K H vs ds
  | .bag => ∃ p, v = .ref p ∧ Bag H p
  | _ => False
inductive ArgsP (K : PySem.W.Frag) (H : Hp) : List V → List Res → Prop
  | nil : ArgsP K H [] []
  | cons {v : V} {vs : List V} {r : Res} {rs : List Res} : ArgOk K H v r → ArgsP K H vs rs → ArgsP K H (v :: vs) (r :: rs)
def argR : Res → Res
  | .len ds => .bor ds
  | .fresh ds => .bor ds
  | x => x
def isRet : Res → Bool
  | .dat _ => true
  | .fresh _ => true
  | .bag => true
  | _ => false
abbrev ASp := List Res → (Res → Prop) → Prop
def spOf (K : PySem.W.Frag) (sp : ASp) : Sp := fun vs H Q _ => ∃ rs k, ArgsP K H vs rs ∧ sp rs k ∧ ∀ v H' r, Same H H' → isRet r = true → ResOk K H H H' v r → k r → Q v H'
def argSlot : Res → Slot
  | .dat d => .dat d
  | .bor ds => .lst ds
  | .bag => .bag
  | _ => .any
def entry (N : List Str) (rs : List Res) : List Slot := rs.map argSlot ++ List.replicate (N.length - rs.length) .any
section
variable {K : PySem.W.Frag} {B H H' : Hp} {δ : List Slot}
theorem ArgsP.length {vs : List V} {rs : List Res} (h : ArgsP K H vs rs) : vs.length = rs.length := by
  induction h with
  | nil => rfl
  | cons _ _ ih => simp [ih]
theorem args_to {H0 : Hp} (e : Same B H') : ∀ {vs : List V} {rs : List Res}, ArgsOk K B H0 H' vs rs → (∀ r ∈ rs, True) → ArgsP K H' vs (rs.map argR)
  | _, _, .nil, _ => .nil
  | _, _, .cons (r := r) h1 h2, h => by
    refine .cons ?_ (args_to e h2 fun _ _ => trivial)
    cases r with
    | dat d => exact h1
    | bor ds =>
      obtain ⟨p, vs, rfl, h3, h4⟩ := h1
      exact ⟨p, vs, rfl, h3.seq e, h4⟩
    | len ds =>
      obtain ⟨p, vs, rfl, h3, h4⟩ := h1
      exact ⟨p, vs, rfl, SqL.of h3, h4⟩
    | fresh ds =>
      obtain ⟨p, vs, rfl, _, h3, h4⟩ := h1
      exact ⟨p, vs, rfl, SqL.of h3, h4⟩
    | bag => exact h1
theorem ec_call {sp : ASp} {E : XK} {ta : TA} {k : Res → Prop} (h : EvA K ta δ fun rs => sp (rs.map argR) k) : EvC K (tCall (spOf K sp) [] E ta) δ k := by
  intro B H σ R Q q
  refine h B H σ R _ fun vs H1 rs e o hs => ?_
  rw [List.append_nil]
  refine ⟨_, k, args_to (R.same.trans e) o fun _ _ => trivial, hs, fun v H2 r e2 hr ho hk => ?_⟩
  refine q v H2 r (e.trans e2) ?_ hk
  cases r with
  | dat d => exact ho
  | bor ds => cases hr
  | len ds => cases hr
  | fresh ds =>
    obtain ⟨p, us, h1, h2, h3⟩ := ho
    exact ⟨p, us, h1, e.free h2, h3⟩
  | bag => exact ho
theorem argSlot_ok {v : V} {r : Res} (h : ArgOk K H v r) : SlotOk K H H (some v) (argSlot r) := by
  cases r with
  | dat d => exact ⟨v, rfl, h⟩
  | bor ds =>
    obtain ⟨p, vs, rfl, h1, h2⟩ := h
    exact ⟨p, vs, rfl, .inl h1, h2⟩
  | len ds => cases h
  | fresh ds => cases h
  | bag =>
    obtain ⟨p, rfl, h1⟩ := h
    exact ⟨p, rfl, h1⟩
theorem noown {r : Res} : isOwn (argSlot r) = false := by cases r <;> rfl
theorem args_at : ∀ {vs : List V} {rs : List Res} {i : Nat} {s : Slot}, ArgsP K H vs rs → (rs.map argSlot)[i]? = some s → ∃ v, vs[i]? = some v ∧ SlotOk K H H (some v) s ∧ isOwn s = false
  | _, _, _, _, .nil, e => by simp at e
  | _, _, 0, _, .cons h1 _, e => by
    simp at e
    subst e
    exact ⟨_, rfl, argSlot_ok h1, noown⟩
  | _, _, i + 1, _, .cons _ h2, e => args_at (i := i) h2 (by simpa using e)
theorem rel_start {N : List Str} {vs : List V} {rs : List Res} (h : ArgsP K H vs rs) : Rel K H H (start N vs) (entry N rs) := by
  have hl := h.length
  have key : ∀ (i : Nat) (s : Slot), (entry N rs)[i]? = some s → SlotOk K H H ((start N vs)[i]?.join) s ∧ isOwn s = false := by
    intro i s hs
    unfold entry at hs
    by_cases hi : i < rs.length
    · rw [List.getElem?_append_left (by simpa using hi)] at hs
      obtain ⟨v, h1, h2, h3⟩ := args_at h hs
      refine ⟨?_, h3⟩
      unfold L2.start
      rw [List.getElem?_append_left (by rw [List.length_map, hl]; exact hi), List.getElem?_map, h1]
      exact h2
    · rw [List.getElem?_append_right (by simpa using hi), List.getElem?_replicate] at hs
      split at hs
      · cases hs
        exact ⟨trivial, rfl⟩
      · cases hs
  refine ⟨Same.refl H, ?_, fun i s hs => (key i s hs).1, fun i j s t p _ hi _ si _ => ?_⟩
  · unfold L2.start entry
    rw [List.length_append, List.length_append, List.length_map, List.length_map, List.length_replicate, List.length_replicate, hl]
  · rw [(key i s hi).2] at si
    cases si
end
/-- a def's promise, by its body over abstract slots -/
theorem fn_ok {P : Program} {w : World} {K : PySem.W.Frag} {mg : Str → Option Value} {base : Heap} {x qual : Str} {st : Stmt} {f : Addr} {fd : FuncData} {N ps : List Str} {n : Nat} {sp : ASp} (F : Fun K x qual st f fd) (S : FnScope N ps (defScope st))
    (hlen : ∀ rs k, sp rs k → rs.length = ps.length)
    (body : ∀ (cdv : Value) (A : Around) (outer : List Env) (s : Shared) (H : Hp) (E : XK) (rs : List Res) (k : Res → Prop), A.guards = some [] → Room n (A.deeper (PyProof.Rows.envOfC qual (defScope st) s.heap.objs.size f cdv)) → sp rs k →
      ∃ t, PSs (cxOf CX0 P w K mg base N qual (defScope st) f cdv A outer s H E).nox (defBody st) t ∧ SD K t { nx := fun _ => k (.dat .none), rt := fun r => isRet r = true ∧ k r } (entry N rs)) : FnG P w K mg base CX0 (n + 1) f fd ps (spOf K sp) := by
  refine Fun.okG F S (fun vs H Q E h => ?_) fun cdv A outer s H vs Q E hg hr h => ?_
  · obtain ⟨rs, k, h1, h2, _⟩ := h
    rw [h1.length]
    exact hlen rs k h2
  · obtain ⟨rs, k, h1, h2, h3⟩ := h
    obtain ⟨t, pt, sd⟩ := body cdv A outer s H E rs k hg hr h2
    refine ⟨t, pt.nox, sd H H _ (rel_start h1) _ ⟨fun σ H' δ R hk => h3 _ _ _ R.same rfl rNon hk, fun v H' r e o hk => h3 v H' r e hk.1 o hk.2, fun _ _ _ _ z => z.elim, fun _ _ _ _ z => z.elim⟩⟩

/-! ## repr -/
def bRepr (K : PySem.W.Frag) : List V → Hp → VK → Prop := fun xs H Q => ∃ x d, xs = [x] ∧ Dp K H x d ∧ d.showable = true ∧ d.shown.length ≤ sizeLine ∧ d.depth ≤ 60 ∧ Q (.str d.shown) H
mutual
theorem dp_nodict {K : PySem.W.Frag} {H : Hp} : ∀ (d : PyData) (v : V), Dp K H v d → d.hasDict = false
  | .none, _, _ => by simp only [PyData.hasDict]
  | .bool _, _, _ => by simp only [PyData.hasDict]
  | .int _, _, _ => by simp only [PyData.hasDict]
  | .str _, _, _ => by simp only [PyData.hasDict]
  | .list ds, _, h => by
    cases h with
    | lst _ h2 =>
      simp only [PyData.hasDict]
      exact dpAll_nodict ds _ h2
  | .tuple ds, _, h => by
    cases h with
    | tup _ h2 =>
      simp only [PyData.hasDict]
      exact dpAll_nodict ds _ h2
  | .dict _, _, h => by cases h
theorem dpAll_nodict {K : PySem.W.Frag} {H : Hp} : ∀ (ds : List PyData) (vs : List V), DpAll K H vs ds → PyData.hasDictAll ds = false
  | [], _, _ => by simp only [PyData.hasDictAll]
  | d :: ds, _, h => by
    cases h with
    | cons h1 h2 => simp only [PyData.hasDictAll, dp_nodict d _ h1, dpAll_nodict ds _ h2, Bool.or_self]
end
theorem cRepr {X : Cx} (hG : X.A.guards = some []) (hu : X.A.units + 64 < cLine) : CallR X (.builtin "repr") (bRepr X.K) := by
  intro pins s σ H xs us Q I r h
  obtain ⟨x, d, rfl, hd, hs, hz, hp, q⟩ := h
  obtain ⟨u, rfl, rx⟩ := vals1 r
  have nd := dp_nodict d x hd
  obtain ⟨as, rd⟩ := Dp.reads I d x u hd rx
  cases hd with
  | non =>
    cases rx
    refine PySem.P.repr_of_none ⟨.str _, H, I.tok _, ⟨_, rfl⟩, ?_⟩
    simp only [PyData.shown] at q
    exact q
  | bl b =>
    cases rx
    refine PySem.P.repr_of_bool ⟨.str _, H, I.tok _, ⟨_, rfl⟩, ?_⟩
    simp only [PyData.shown] at q
    exact q
  | int i =>
    obtain ⟨t, rfl⟩ := rx
    refine PySem.P.repr_of_int (by simpa [PyData.showable] using hs) ⟨.str _, H, I.tok _, ⟨_, rfl⟩, ?_⟩
    simp only [PyData.shown] at q
    exact q
  | str z =>
    obtain ⟨t, rfl⟩ := rx
    refine PySem.P.repr_of_str (hsz := by simpa only [PyData.shown] using hz) ⟨.str _, H, I.tok _, ⟨_, rfl⟩, ?_⟩
    simp only [PyData.shown] at q
    exact q
  | lst _ _ =>
    cases rx
    exact repr_of_reads' rd hs (PyData.noDict_hsm nd) hG (by omega) (fun _ _ e => e) (fun h' u' tk hk => ⟨.str _, H, I.kept hk, ⟨_, rfl⟩, q⟩) hz
  | tup _ _ =>
    cases rx
    exact repr_of_reads' rd hs (PyData.noDict_hsm nd) hG (by omega) (fun _ _ e => e) (fun h' u' tk hk => ⟨.str _, H, I.kept hk, ⟨_, rfl⟩, q⟩) hz
/-- data whose text is short enough -/
structure Tells (d : PyData) : Prop where
  showable : d.showable = true
  short : d.shown.length ≤ sizeLine
  shaped : SeqAt.shaped d = true
  flat : d.depth ≤ 60
inductive ReprP : List Res → (Res → Prop) → Prop
  | mk {x : Res} {d : PyData} {k : Res → Prop} : x.data = some d → Tells d → k (.dat (.str d.shown)) → ReprP [x] k
theorem cbRepr {K : PySem.W.Frag} : CbOk K (bRepr K) ReprP := by
  intro B H H1 vs rs k Q e0 e1 o p q
  cases p with
  | mk hx ht g =>
    cases o with
    | cons o1 o2 =>
      cases o2
      exact ⟨_, _, rfl, o1.dp (e0.trans e1) hx, ht.showable, ht.short, ht.flat, q _ _ _ (Same.refl _) rStr g⟩

/-! ## what is walked -/
section
variable {X : Cx} {tg : Expr}
def iSeq (K : PySem.W.Frag) (tl : TE) : TI := fun σ H R => tl σ H fun x H1 => (∃ a, x = .ref a ∧ (∃ xs, SqL K H1 a xs) ∧ R (Itl K a) H1) ∨ (∃ a, x = .ref a ∧ (∃ xs, SqT K H1 a xs) ∧ R (Itt K a) H1)
theorem pi_seq {l : Expr} {tl : TE} (hl : PE X l tl) : PI X tg l (iSeq X.K tl) := by
  refine ⟨fun pins s σ H R I h => ?_⟩
  refine thn (hl.run pins s σ H _ I h) fun v s1 ⟨x, H1, I1, r1, q1⟩ => ?_
  rcases q1 with ⟨a, rfl, ⟨xs, hq⟩, q⟩ | ⟨a, rfl, ⟨xs, hq⟩, q⟩
  · cases r1
    obtain ⟨its, _, pl, _⟩ := I1.list hq
    exact wpAny_pyIter_list pl.isList (pi_one (tk := s1.toks) I1 _ (turn_list a _) ⟨_, Heap.get?_push_size _ rfl, rfl, rfl⟩ q)
  · cases r1
    obtain ⟨its, _, pl, _⟩ := I1.tuple hq
    exact wpAny_pyIter_tuple (show s1.heap.IsTuple a its.toArray from pl) (pi_one (tk := s1.toks) I1 _ (turn_tuple a _) ⟨_, Heap.get?_push_size _ rfl, rfl, rfl⟩ q)
end
section
variable {K : PySem.W.Frag} {δ : List Slot}
theorem walk_l {G0 : Hp} {a : Addr} {xs : List V} {ds : List PyData} (h : SqL K G0 a xs) (im : ImAll K G0 xs ds) : WalkOk K G0 (Itl K a) ds := by
  refine ⟨YAt xs, ?_, fun i H x H' hi e y => ?_⟩
  · have w := (walk_list (K := K) (a := a) (xs := xs)).mono (G' := fun H => Same G0 H) (fun H e => sql_same e h) (fun i H x H' _ _ y => y)
    rw [im.length] at w
    exact w
  · obtain ⟨rfl, hx⟩ := y
    obtain ⟨d, h1, h2⟩ := im.getV hx
    exact ⟨Same.refl _, d, h1, h2.to (per_same e)⟩
theorem walk_t {G0 : Hp} {a : Addr} {xs : List V} {ds : List PyData} (h : SqT K G0 a xs) (im : ImAll K G0 xs ds) : WalkOk K G0 (Itt K a) ds := by
  refine ⟨YAt xs, ?_, fun i H x H' hi e y => ?_⟩
  · have w := (walk_tup (K := K) (a := a) (xs := xs)).mono (G' := fun H => Same G0 H) (fun H e => sqt_per (per_same e) h) (fun i H x H' _ _ y => y)
    rw [im.length] at w
    exact w
  · obtain ⟨rfl, hx⟩ := y
    obtain ⟨d, h1, h2⟩ := im.getV hx
    exact ⟨Same.refl _, d, h1, h2.to (per_same e)⟩
/-- what stands by itself: for a loop whose body may write lists -/
def Res.still : Res → Option (List PyData)
  | .dat (.list ds) => some ds
  | .dat (.tuple ds) => some ds
  | .bor ds => some ds
  | _ => none
def Res.walked : Res → Option (List PyData)
  | .dat (.list ds) => some ds
  | .dat (.tuple ds) => some ds
  | .bor ds => some ds
  | .len ds => some ds
  | .fresh ds => some ds
  | _ => none
theorem sqb_core {B H : Hp} {p : Addr} {xs : List V} (e : Same B H) (h : SqB K B H p xs) : SqL K (core B H) p xs := h.elim (fun z => sql_same (core_up e) z) fun z => (z.per core_per).seq
theorem itl_seq {tl : TE} {k : List PyData → Prop} (h : EvC K tl δ fun x => ∃ ds, x.still = some ds ∧ k ds) : ItL K (iSeq K tl) δ k := by
  intro B H σ R Rr q
  refine h B H σ R _ fun v H1 x e o ⟨ds, hx, hk⟩ => ?_
  have e1 := R.same.trans e
  cases x with
  | dat d =>
    cases d <;> cases hx
    · cases o with
      | lst h1 h2 => exact .inl ⟨_, rfl, ⟨_, h1.seq⟩, q _ H1 _ e (walk_l (h1.per core_per).seq (h2.to core_per)) hk⟩
    · cases o with
      | tup h1 h2 => exact .inr ⟨_, rfl, ⟨_, h1⟩, q _ H1 _ e (walk_t (sqt_per core_per h1) (h2.to core_per)) hk⟩
  | bor es =>
    cases hx
    obtain ⟨p, vs, rfl, h1, h2⟩ := o
    exact .inl ⟨p, rfl, ⟨_, h1.seq e1⟩, q _ H1 _ e (walk_l (sqb_core e1 h1) (h2.to core_per)) hk⟩
  | len es => cases hx
  | fresh es => cases hx
  | bag => cases hx
theorem ite_seq {tl : TE} {k : List PyData → Prop} (h : EvC K tl δ fun x => ∃ ds, x.walked = some ds ∧ k ds) : ItE K (iSeq K tl) δ k := by
  intro B H σ R Rr q
  refine h B H σ R _ fun v H1 x e o ⟨ds, hx, hk⟩ => ?_
  have e1 := R.same.trans e
  cases x with
  | dat d =>
    cases d <;> cases hx
    · cases o with
      | lst h1 h2 => exact .inl ⟨_, rfl, ⟨_, h1.seq⟩, q _ H1 _ e (walk_l h1.seq h2) hk⟩
    · cases o with
      | tup h1 h2 => exact .inr ⟨_, rfl, ⟨_, h1⟩, q _ H1 _ e (walk_t h1 h2) hk⟩
  | bor es =>
    cases hx
    obtain ⟨p, vs, rfl, h1, h2⟩ := o
    exact .inl ⟨p, rfl, ⟨_, h1.seq e1⟩, q _ H1 _ e (walk_l (h1.seq e1) h2) hk⟩
  | len es =>
    cases hx
    obtain ⟨p, vs, rfl, h1, h2⟩ := o
    exact .inl ⟨p, rfl, ⟨_, SqL.of h1⟩, q _ H1 _ e (walk_l (SqL.of h1) h2) hk⟩
  | fresh es =>
    cases hx
    obtain ⟨p, vs, rfl, _, h1, h2⟩ := o
    exact .inl ⟨p, rfl, ⟨_, SqL.of h1⟩, q _ H1 _ e (walk_l (SqL.of h1) h2) hk⟩
  | bag => cases hx
/-- lo, lo + 1, .. -/
def rgD (lo : Int) (n : Nat) : List PyData := (List.range n).map fun i => .int (lo + (i : Nat))
theorem rgD_len {lo : Int} {n : Nat} : (rgD lo n).length = n := by unfold rgD; rw [List.length_map, List.length_range]
theorem rgD_get {lo : Int} {n i : Nat} (h : i < n) : (rgD lo n)[i]? = some (.int (lo + (i : Nat))) := by
  unfold rgD
  rw [List.getElem?_map, List.getElem?_range h]
  rfl
theorem walk_r {G0 : Hp} {lo : Int} {n : Nat} : WalkOk K G0 (Itr lo n) (rgD lo n) := by
  refine ⟨YFn fun i => .int (lo + (i : Nat)), ?_, fun i H x H' hi e y => ?_⟩
  · have w := (walk_range (lo := lo) (n := n)).mono (G' := fun H => Same G0 H) (fun H e => trivial) (fun i H x H' _ _ y => y)
    rw [rgD_len]
    exact w
  · obtain ⟨rfl, rfl⟩ := y
    rw [rgD_len] at hi
    exact ⟨Same.refl _, _, rgD_get hi, .int _⟩
theorem itl_r1 {ta : TA} {k : List PyData → Prop} (h : EvA K ta δ fun rs => ∃ j : Int, rs = [.dat (.int j)] ∧ -(2 ^ 62) ≤ j ∧ j < 2 ^ 62 ∧ k (rgD 0 j.toNat)) : ItL K (iRng1 ta) δ k := by
  intro B H σ R Rr q
  refine h B H σ R _ fun vs H1 rs e o ⟨j, hx, h1, h2, hk⟩ => ?_
  subst hx
  cases o with
  | cons o1 o2 =>
    cases o1; cases o2
    exact ⟨j, rfl, h1, h2, q _ H1 _ e walk_r hk⟩
theorem itl_r2 {ta : TA} {k : List PyData → Prop} (h : EvA K ta δ fun rs => ∃ i j : Int, rs = [.dat (.int i), .dat (.int j)] ∧ (-(2 ^ 62) ≤ i ∧ i < 2 ^ 62 ∧ -(2 ^ 62) ≤ j ∧ j < 2 ^ 62) ∧ k (rgD i (j - i).toNat)) : ItL K (iRng2 ta) δ k := by
  intro B H σ R Rr q
  refine h B H σ R _ fun vs H1 rs e o ⟨i, j, hx, h1, hk⟩ => ?_
  subst hx
  cases o with
  | cons o1 o2 =>
    cases o2 with
    | cons o2 o3 =>
      cases o1; cases o2; cases o3
      exact ⟨i, j, rfl, h1, q _ H1 _ e walk_r hk⟩
end

/-! ## the law's end -/
theorem law_g {P : Program} {w : World} {K : PySem.W.Frag} {mg mb : Str → Option Value} {n : Nat} {fa a : Addr} {fd : FuncData} {x : Str} {s₁ : Shared} {vs : List Value} {ns : List Int} {sp : ASp}
    (kin : K.In s₁.heap) (hns : s₁.heap.Ns mainGlobals mg) (hb : s₁.heap.Ns builtinsNs mb) (hbb : ∀ y : Str, y ≠ "__name__" → mb y = bootBuiltins y) (hlim : s₁.heap.NoLimit) (hg : s₁.gens = #[])
    (ha : s₁.heap.get? a = some { cls := .type "list", data := .seq vs.toArray }) (hi : PyProof.Rows.IntsAre vs ns) (hl : ns.length ≤ sizeLine) (hr : Room n callerA)
    (F : ∀ base : Heap, K.In base → base.Ns mainGlobals mg → FnG P w K mg base CX0 n fa fd [x] (spOf K sp)) (hbind : ∀ (s : Shared) (u : Value), BindsTo s fd ⟨[u], []⟩ [(x, u)])
    (hsp : sp [.bor (ns.map .int)] fun r => r = .dat (.bool true)) :
    codeAny (model P w) callerA (.call (.ref fa) ⟨[.ref a], []⟩) (fun r s' => r = .ok (.ret (.bool true)) ∧ PySem.OldK s₁.heap s'.heap ∧ s'.os = s₁.os ∧ PyProof.Rows.AllBare s'.gens) s₁ := by
  have rv := vals_ints hi
  have nV := hi.length
  have go : ∀ H : Hp, Only H → SqL K H a (ns.map V.int) → HOk P w H s₁.heap → (∀ b, H b ≠ none → b = a) → (H a ≠ none → K.lookup a = none) →
      codeAny (model P w) callerA (.call (.ref fa) ⟨[.ref a], []⟩) (fun r s' => r = .ok (.ret (.bool true)) ∧ PySem.OldK s₁.heap s'.heap ∧ s'.os = s₁.os ∧ PyProof.Rows.AllBare s'.gens) s₁ := by
    intro H only sq hok hA hK
    have under : ∀ {b : Addr} {o : Obj}, s₁.heap.get? b = some o → H b = none → (hidT s₁.heap H).get? b = some o := fun q z => hidT_get q z
    have nodict : ∀ {b : Addr} {o : Obj} {es : Array DictEntry} {ep : Nat}, s₁.heap.get? b = some o → o.data = .dict es ep → H b = none := by
      intro b o es ep q d
      cases hb' : H b with
      | none => rfl
      | some u =>
        have z : b = a := hA b (by rw [hb']; simp)
        subst z
        rw [ha] at q
        cases q
        cases d
    have nsT : ∀ {b : Addr} {m : Str → Option Value}, s₁.heap.Ns b m → (hidT s₁.heap H).Ns b m := fun {b m} ⟨o, es, ep, q, d, rest⟩ => ⟨o, es, ep, under q (nodict q d), d, rest⟩
    have kinT : K.In (hidT s₁.heap H) := by
      intro b o q
      refine under (kin b o q) ?_
      cases hb' : H b with
      | none => rfl
      | some u =>
        have z : b = a := hA b (by rw [hb']; simp)
        subst z
        rw [hK (by rw [hb']; simp)] at q
        cases q
    obtain ⟨mc, l1, l2⟩ := hlim
    have hM : Mod K mg (hidT s₁.heap H) := ⟨kinT, nsT hns, ⟨mb, nsT hb, hbb⟩, ⟨mc, nsT l1, l2⟩⟩
    have e0 : Env0 P w K mg (hidT s₁.heap H) callerA [] s₁ H := ⟨rfl, hM, fun b o q => of_hidT q, Nat.le_of_eq (hidT_size _ _), trivial, fun b hb => absurd (show b ∈ ([] : List Addr) from hb) (by simp), hok, .of_eq hg⟩
    have prom : spOf K sp [.ref a] H (fun v _ => v = .bl true) fun _ _ _ => False := by
      have ap : ArgsP K H [.ref a] [.bor (ns.map .int)] := .cons ⟨a, _, rfl, sq, ImAll.ints ns⟩ .nil
      refine ⟨_, _, ap, hsp, fun v H' r _ _ o z => ?_⟩
      subst z
      cases o
      rfl
    refine codeAny_mono ((F _ kinT (nsT hns)).run callerA [] s₁ H ⟨[.ref a], []⟩ [.ref a] [.ref a] _ _ rfl hr e0 (hbind s₁ (.ref a)) (.cons rfl .nil) prom) fun r s' h => ?_
    match r, h with
    | .error z, h => exact h.elim
    | .ok (.ret u), ⟨v, H', os, bare, un, hok', rel, q⟩ =>
      have q' : v = .bl true := q
      subst q'
      obtain rfl : u = Value.bool true := rel
      refine ⟨rfl, PySem.OldK.of_keep fun b o z => ?_, os, bare⟩
      cases hb' : H b with
      | none => exact un.keep b o z hb' (fun y => absurd (show b ∈ ([] : List Addr) from y) (by simp)) (by simp)
      | some u =>
        rcases only b with y | ⟨ob, xs, y⟩
        · rw [hb'] at y
          cases y
        · obtain ⟨g1, _⟩ := hok b _ y
          obtain ⟨g2, _⟩ := hok' b _ (un.frzs b ob _ y)
          rw [z] at g1
          cases g1
          exact g2
  cases hk : K.lookup a with
  | some o =>
    have q := kin a o hk
    rw [ha] at q
    cases q
    exact go (fun _ => none) (fun _ => .inl rfl) (.inr ⟨_, vs.toArray, _, hk, rfl, rfl, rfl, by rw [List.size_toArray, nV]; exact hl, by simpa using rv⟩) (fun b u z => nomatch z) (fun b z => absurd rfl z) fun z => absurd rfl z
  | none =>
    refine go (fun b => if b = a then some (.frz { cls := .type "list", data := .seq vs.toArray } (.lst (ns.map V.int))) else none) (fun b => ?_) (.inl (.inr ⟨_, if_pos rfl⟩)) (fun b u z => ?_) (fun b z => ?_) fun _ => hk
    · by_cases hb : b = a
      · exact .inr ⟨_, _, if_pos hb⟩
      · exact .inl (if_neg hb)
    · by_cases hb : b = a
      · subst hb
        have z' := (if_pos rfl).symm.trans z
        cases z'
        exact ⟨ha, by rw [List.length_map]; exact hl, vs, _, rv, ha⟩
      · have z' := (if_neg hb).symm.trans z
        cases z'
    · by_cases hb : b = a
      · exact hb
      · exact absurd (if_neg hb) z
theorem walk_g {l : PySem.W.OpenLaw} {n : Nat} {q : Program} {loose : List Str} {XP : (Str → Option Value) → Heap → Prop} {YP : World → Heap → Prop} {d : DefRec} {K : Params → PySem.W.Frag} {sp : ASp} {x : Str}
    (hn : l.most = some 63) (hdf : d.params.defaults = []) (hr : Room n callerA) (hY : ∀ (w : World) (h : Heap), YP w h → (K w.params).In h)
    (F : ∀ (w : World) (mg : Str → Option Value) (fa : Addr) (h : Heap), (K w.params).In h → h.Ns mainGlobals mg → mg d.name = some (.ref fa) →
      ∃ fd : FuncData, (∀ (s : Shared) (u : Value), BindsTo s fd ⟨[u], []⟩ [(x, u)]) ∧ ∀ base : Heap, (K w.params).In base → base.Ns mainGlobals mg → FnG l.prog w (K w.params) mg base CX0 n fa fd [x] (spOf (K w.params) sp))
    (hsp : ∀ ns : List Int, ns.length ≤ 63 → (∀ z ∈ ns, Builtin.Int.intBits z ≤ 1048576) → sp [.bor (ns.map .int)] fun r => r = .dat (.bool true)) :
    PySem.W.WalkO q loose XP YP l.row.toRowW d [] (fun f vs => PySem.call f vs) := by
  refine Att.attach_callB hn hdf fun w s₀ s₁ mg mb fa o pm cd doc a vs ns G Y ho hd hcd hmg hobj hints hlen hbits hg => ?_
  have kin := hY w _ Y
  obtain ⟨fd, hb, hF⟩ := F w mg fa _ kin G.T.g hmg
  exact law_g kin G.T.g G.T.b G.T.builtins G.T.nolimit hg hobj hints (Nat.le_trans hlen (by decide)) hr hF hb (hsp ns hlen hbits)
end Dl

/-! own layer: enumerate and zip of lists and tuples in any mix -/
namespace Dl
open PySem PySem.Spec L2
/-- the list or tuple at a -/
def Sq (K : PySem.W.Frag) (b : Bool) (H : Hp) (a : Addr) (xs : List V) : Prop := if b then SqL K H a xs else SqT K H a xs
def itObj (b : Bool) (a : Addr) : Obj := if b then { cls := .type "list_iterator", data := .fields #[.ref a, .int 0 0] } else { cls := .type "tuple_iterator", data := .fields #[.ref a, .int 0 0] }
def IsIt (b : Bool) (h : Heap) (it a : Addr) (i : Nat) : Prop := if b then h.IsListIter it a i else h.IsTupleIter it a i
def IsSq (b : Bool) (h : Heap) (a : Addr) (its : Array Value) : Prop := if b then h.IsList a its else h.IsTuple a its
theorem IsIt.at {b : Bool} {h h' : Heap} {it a : Addr} {i : Nat} (x : IsIt b h it a i) (k : ∀ o, h.get? it = some o → h'.get? it = some o) : IsIt b h' it a i := by
  cases b
  · exact Heap.IsTupleIter.at (show h.IsTupleIter it a i from x) k
  · exact Heap.IsListIter.at (show h.IsListIter it a i from x) k
theorem IsIt.obj {b : Bool} {h : Heap} {it a : Addr} {i : Nat} (x : IsIt b h it a i) : ∃ o, h.get? it = some o ∧ ∀ v, o.data ≠ .cell v := by
  cases b
  · obtain ⟨o, h1, _, h2⟩ := (show h.IsTupleIter it a i from x)
    exact ⟨o, h1, fun v q => by rw [h2] at q; cases q⟩
  · obtain ⟨o, h1, _, h2⟩ := (show h.IsListIter it a i from x)
    exact ⟨o, h1, fun v q => by rw [h2] at q; cases q⟩
theorem IsIt.ne {b c : Bool} {h : Heap} {it a d : Addr} {i : Nat} {its : Array Value} (x : IsIt b h it a i) (y : IsSq c h d its) : d ≠ it := by
  intro z
  subst z
  have hx : ∃ o n, h.get? d = some o ∧ o.cls = .type n ∧ (n = "list_iterator" ∨ n = "tuple_iterator") := by
    cases b
    · obtain ⟨o, h1, h2, _⟩ := (show h.IsTupleIter d a i from x)
      exact ⟨o, _, h1, h2, .inr rfl⟩
    · obtain ⟨o, h1, h2, _⟩ := (show h.IsListIter d a i from x)
      exact ⟨o, _, h1, h2, .inl rfl⟩
  have hy : ∃ o n, h.get? d = some o ∧ o.cls = .type n ∧ (n = "list" ∨ n = "tuple") := by
    cases c
    · obtain ⟨o, h1, h2, _⟩ := (show h.IsTuple d its from y)
      exact ⟨o, _, h1, h2, .inr rfl⟩
    · obtain ⟨o, h1, h2, _⟩ := (show h.IsList d its from y)
      exact ⟨o, _, h1, h2, .inl rfl⟩
  obtain ⟨o, n, h1, h2, h3⟩ := hx
  obtain ⟨u, m, g1, g2, g3⟩ := hy
  rw [h1] at g1
  cases g1
  rw [h2] at g2
  cases g2
  rcases h3 with rfl | rfl <;> rcases g3 with z | z <;> exact absurd z (by decide)
theorem IsSq.neE {c : Bool} {h : Heap} {d e it : Addr} {k : Int} {old : Value} {its : Array Value} (y : IsSq c h d its) (x : IsEnum h e it k old) : e ≠ d := by
  intro z
  subst z
  cases c
  · obtain ⟨o, h1, h2, _⟩ := (show h.IsTuple e its from y)
    rw [x] at h1
    cases h1
    exact absurd (Value.type.inj h2) (by decide)
  · obtain ⟨o, h1, h2, _⟩ := (show h.IsList e its from y)
    rw [x] at h1
    cases h1
    exact absurd (Value.type.inj h2) (by decide)
section
variable {X : Cx} {pins : List (Addr × Obj)} {σ : L2.St} {H : Hp} {s : Shared}
theorem sq_its {b : Bool} {a : Addr} {xs : List V} (I : Inv X pins σ H s) (h : Sq X.K b H a xs) : ∃ its : List Value, Vals xs its ∧ IsSq b s.heap a its.toArray ∧ xs.length ≤ sizeLine := by
  cases b
  · obtain ⟨its, h1, h2, h3⟩ := I.tuple (show SqT X.K H a xs from h)
    exact ⟨its, h1, h2, h3⟩
  · obtain ⟨its, h1, h2, h3⟩ := I.list (show SqL X.K H a xs from h)
    exact ⟨its, h1, h2.isList, h3⟩
theorem sq_inj {b : Bool} {a : Addr} {xs ys : List V} (I : Inv X pins σ H s) (h : Sq X.K b H a xs) (h' : Sq X.K b H a ys) : xs = ys := by
  cases b
  · exact I.tuple_inj (show SqT X.K H a xs from h) h'
  · exact I.list_inj (show SqL X.K H a xs from h) h'
end
theorem draws_sq {prog : Program} {w : World} {A : Around} (hh : A.handled = none) (b : Bool) (it a : Addr) (hne : a ≠ it) (items : Array Value) :
    Draws prog w A it [it, a] items.size (fun i v => items[i]? = some v) (fun i h => IsIt b h it a i ∧ IsSq b h a items) := by
  cases b
  · exact Draws.tuple hh it a hne items
  · exact Draws.list hh it a hne items
theorem begins_sq (b : Bool) (a : Addr) (items : Array Value) : Begins (.ref a) (itObj b a) fun h => IsSq b h a items := by
  cases b
  · exact begins_tuple a items
  · exact begins_list a items
theorem isIt_new {b : Bool} {h : Heap} {it a : Addr} (e : h.get? it = some (itObj b a)) : IsIt b h it a 0 := by
  cases b
  · exact ⟨_, e, rfl, rfl⟩
  · exact ⟨_, e, rfl, rfl⟩

/-! ## enumerate -/
def IteA (K : PySem.W.Frag) (b : Bool) (a : Addr) : It :=
  ⟨fun i H => ∃ (xs : List V) (x : V), Sq K b H a xs ∧ xs[i]? = some x, fun i H v H' => ∃ T x, v = .ref T ∧ H T = none ∧ H' = upd H T (.tup [.int (i : Nat), x]) ∧ ∀ xs, Sq K b H a xs → xs[i]? = some x, fun i H => ∃ xs : List V, Sq K b H a xs ∧ xs.length ≤ i⟩
theorem turn_enumA {P : Program} {w : World} {K : PySem.W.Frag} {elts : List Expr} {kk : Nat} {tpos : Pos} (b : Bool) (a e it : Addr) :
    Turn P w K (.Tuple elts kk tpos) (IteA K b a) [e, it] e (fun i h => (∃ old, IsEnum h e it ((i : Nat) : Int) old) ∧ IsIt b h it a i ∧ e ≠ it) where
  mem := List.mem_cons_self
  obj := by
    rintro i h ⟨⟨old, he⟩, hit, _⟩ c hc
    rcases List.mem_cons.mp hc with z | z
    · subst z
      exact ⟨_, he, fun v q => nomatch q⟩
    · obtain rfl := List.mem_singleton.mp z
      exact hit.obj
  keep := by
    rintro i h h' ⟨⟨old, he⟩, hit, hne⟩ k
    exact ⟨⟨old, k e List.mem_cons_self _ he⟩, hit.at fun o q => k it (by simp) o q, hne⟩
  item := by
    intro X hP hw hK hc i pins s σ H E I hf st hg
    subst hP hw hK
    obtain ⟨⟨old, he⟩, hit, hne⟩ := st
    obtain ⟨xs, x, hq, hx⟩ := hg
    obtain ⟨its, rv, isq, _⟩ := sq_its I hq
    have hlt : i < its.toArray.size := by
      have := (List.getElem?_eq_some_iff.mp hx).1
      rw [rv.length] at this
      simpa using this
    have hae : e ∉ [it, a] := fun z => by
      rcases List.mem_cons.mp z with z | z
      · exact hne z
      · exact isq.neE he (List.mem_singleton.mp z)
    have hh : X.A.in1.handled = none := I.ok.hd hc
    refine wpAny_pyNext_enum_itemD (draws_sq hh b it a (hit.ne isq) its.toArray) he ⟨hit, isq⟩ hlt hne hae fun u h' tk hu ho hst hT hsz hk => ?_
    obtain ⟨u', hu', ru⟩ := rv.get hx
    have euu : u = u' := by
      have h1 : its.toArray[i]? = its[i]? := by simp
      have h2 : some u = some u' := by rw [← hu', ← h1]; exact hu.symm
      exact Option.some.inj h2
    subst euu
    have hel : e < s.heap.objs.size := Heap.lt_size he
    have hil : it < s.heap.objs.size := by
      obtain ⟨o, q, _⟩ := hit.obj
      exact Heap.lt_size q
    refine ⟨_, rfl, wpAny_letOwnedTupleGo_enum (s := { s with heap := h', toks := tk + 1 }) ho fun h'' he' sb => ?_⟩
    have hT2 := (sb.2 _ (Nat.ne_of_gt hel)).trans hT
    have new : ObjOk X.prog X.w (upd H s.heap.objs.size (.tup [.int (i : Nat), x])) h'' s.heap.objs.size (.tup [.int (i : Nat), x]) :=
      ⟨(by decide : 2 ≤ sizeLine), [.int i tk, u], .cons ⟨_, rfl⟩ (.cons ru .nil), ⟨_, hT2, rfl, _, rfl⟩⟩
    have far : ∀ c, c ∉ [e, it] → c ≠ e ∧ c ≠ it := fun c hc => ⟨fun z => hc (by simp [z]), fun z => hc (by simp [z])⟩
    have I1 : Inv X pins σ (upd H s.heap.objs.size (.tup [.int (i : Nat), x])) { s with heap := h'', toks := tk + 1 } :=
      I.turnedNew (ch := [e, it]) (fun c ob hc q => (sb.2 c (far c hc).1).trans (hk c ob (far c hc).1 (far c hc).2 q)) hf (Nat.le_refl _) new
    refine ⟨.ref s.heap.objs.size, _, I1, rfl, ⟨_, x, rfl, I.hok.fresh (Nat.le_refl _), rfl, fun ys hy => ?_⟩, ⟨⟨u, ?_⟩, hst.1.at fun o q => (sb.2 it (Ne.symm hne)).trans q, hne⟩, fun c hc => ?_⟩
    · rw [sq_inj I hy hq]
      exact hx
    · have z : ((i + 1 : Nat) : Int) = (i : Int) + 1 := by omega
      rw [z]
      exact he'
    · have hcl : c < s.heap.objs.size := by
        rcases List.mem_cons.mp hc with z | z
        · rw [z]
          exact hel
        · rw [List.mem_singleton.mp z]
          exact hil
      rw [upd_ne (Nat.ne_of_lt hcl)]
      exact (hf c hc).1
  done := by
    intro X hP hw hK hc i pins s σ H E I hf st hg
    subst hP hw hK
    obtain ⟨⟨old, he⟩, hit, hne⟩ := st
    obtain ⟨xs, hq, hx⟩ := hg
    obtain ⟨its, rv, isq, _⟩ := sq_its I hq
    have hh : X.A.in1.handled = none := I.ok.hd hc
    have fin : ∀ h' : Heap, (Heap.ExtBut it s.heap h') → (none : Option Value) = none ∧ Inv X pins σ H { s with heap := h' } := fun h' ex =>
      ⟨rfl, I.turnedL (t' := s.toks) (ch := [e, it]) (fun c o hc q => ex c o (fun z => hc (by simp [z])) q) hf⟩
    have hend : its.toArray[i]? = none := by
      have := rv.length
      simp
      omega
    cases b with
    | true => exact wpAny_pyNext_enum_end (I.ok.hd hc) he hit isq hend fin
    | false =>
      refine wpAny_pyNext_enum_endD (n := i) (P := fun _ _ => False) (St := fun j h => j = i ∧ h.IsTupleIter it a i ∧ h.IsTuple a its.toArray) (fp := [it, a])
        ⟨?_, ?_, ?_, ?_⟩ he ⟨rfl, hit, isq⟩ fin
      · rintro j h ⟨_, h1, _⟩
        obtain ⟨o, q, _⟩ := h1
        exact ⟨o, q⟩
      · rintro j h h' ⟨e1, h1, h2⟩ k
        refine ⟨e1, h1.at fun o q => k it (by simp) o q, ?_⟩
        obtain ⟨o, q1, q2⟩ := h2
        exact ⟨o, k a (by simp) _ q1, q2⟩
      · rintro j s' Q E' hj ⟨e1, _⟩
        omega
      · rintro s' Q E' ⟨_, h1, h2⟩ hE
        exact wpAny_nextOf_tuple_end hh h1 h2 hend hE
  self := fun A i s Q E st h => by
    obtain ⟨⟨_, he⟩, _⟩ := st
    exact wpAny_pyIter_enum he h
theorem meets_enumT (l : Addr) (items : Array Value) (n : Nat) (dct : Option Addr) (sl : Array (Option Value)) :
    Meets (Builtin.«enumerate.__new__» ⟨[.type "enumerate", .ref l], []⟩) (fun _ R s => s.heap.get? l = some { cls := .type "tuple", dict := dct, data := .seq items n, slots := sl } ∧
      R (.ok (.ret (.ref (s.heap.push (itObj false l)).objs.size))) { s with heap := (s.heap.push (itObj false l)).push { cls := .type "enumerate", data := .fields #[.none, .bool false, .ref s.heap.objs.size, rawInt 0, .none, .none] } }) :=
  .of_wp fun prog w A R s h => by
    obtain ⟨hp, g, d, tk, os⟩ := s
    obtain ⟨hl, h⟩ := h
    have hsub := sub_enumerate
    have ist : Heap.IsTuple (Shared.heap ⟨hp, g, d, tk, os⟩) l items := ⟨_, hl, rfl, n, rfl⟩
    wp_walk using AutoSeq1.wpAny_loadPart' hl
    refine wpAny_stack_any fun st => wpAny_pure ?_
    split
    · rename_i c _ _ _ _ _
      cases (c == Value.type "enumerate") <;>
      · wp_walk using AutoSeq1.wpAny_loadPart' hl, wpAny_pyIter_tuple ist
        exact ⟨_, rfl, h⟩
    · wp_walk using AutoSeq1.wpAny_loadPart' hl, wpAny_pyIter_tuple ist
      exact ⟨_, rfl, h⟩
theorem call_enumT {prog : Program} {w : World} {A : Around} {E : Value → Shared → Prop} {s : Shared} {l : Addr} {items : Array Value} {Q : Value → Shared → Prop} (ht : s.heap.IsTuple l items)
    (h : ∀ h', IsEnum h' (s.heap.objs.size + 1) s.heap.objs.size 0 .none → h'.get? s.heap.objs.size = some (itObj false l) →
      (∀ b o, s.heap.get? b = some o → h'.get? b = some o) → Q (.ref (s.heap.objs.size + 1)) { s with heap := h' }) :
    wpAny (model prog w) A (call (.type "enumerate") [.ref l]) Q E s := by
  obtain ⟨⟨c, dct, dt, sl⟩, hl, hc, n, hd⟩ := ht
  obtain rfl : c = .type "tuple" := hc
  obtain rfl : dt = .seq items n := hd
  refine callType_new F.called_enumerate (by decide) (F.typeCall_enumerate_1 _) (F.newCall_enumerate_1 _) (fun obj => F.args_object_init_2 obj _) F.entry_enumerate_new (meets_enumT l items n dct sl) ⟨hl, ?_⟩
  have z : (s.heap.push (itObj false l)).objs.size = s.heap.objs.size + 1 := Heap.size_push ..
  have g1 := Heap.get?_push_size (s.heap.push (itObj false l)) (o := { cls := .type "enumerate", data := .fields #[.none, .bool false, .ref s.heap.objs.size, rawInt 0, .none, .none] }) rfl
  rw [z] at g1
  show _ ∧ _
  rw [z]
  exact ⟨⟨_, g1, rfl⟩, h _ g1 (Heap.get?_push_of_some _ (Heap.get?_push_size _ rfl)) fun b o q => Heap.get?_push_of_some _ (Heap.get?_push_of_some _ q)⟩
def iEnumA (K : PySem.W.Frag) (ta : TA) : TI := fun σ H R => ta σ H fun vs H1 => ∃ b a xs, vs = [.ref a] ∧ Sq K b H1 a xs ∧ R (IteA K b a) H1
theorem pi_enumA {X : Cx} {e : Expr} {ta : TA} {p pos tpos : Pos} {elts : List Expr} {kk : Nat} (hm : X.mg "enumerate" = none) (ha : PA X [e] ta) (hg : Gl X "enumerate" := by rfl) (hs : starEach [e] X.env = [(false, eval e X.env)] := by rfl) :
    PI X (.Tuple elts kk tpos) (.Call (.Name "enumerate" p) [e] [] pos) (iEnumA X.K ta) := by
  refine ⟨fun pins s σ H R I h => ?_⟩
  refine PyProof.Rows.Call_ (ld_blt I hg hm PyProof.Rows.boot_enumerate (PyProof.Rows.callWith_type1 (thn (ha.run pos pins s σ H _ I h) fun us s1 ⟨vs, H1, I1, r1, q1⟩ => ?_) hs rfl))
  obtain ⟨b, a, xs, rfl, hq, q⟩ := q1
  obtain rfl := Vals.ref1 r1
  obtain ⟨its, rv, isq, _⟩ := sq_its I1 hq
  have fpo : ∀ c ∈ [s1.heap.objs.size + 1, s1.heap.objs.size], FpOk X pins H1 c := fun c hc => by
    have hle : s1.heap.objs.size ≤ c := by
      rcases List.mem_cons.mp hc with z | z
      · rw [z]
        exact Nat.le_succ _
      · rw [List.mem_singleton.mp z]
        exact Nat.le_refl _
    exact I1.fpOk hle (I1.hok.fresh hle)
  cases b with
  | true =>
    refine call_enumerate_list isq fun h' he hit hsz hk => wpAny_pyIter_enum he ?_
    exact ⟨_, [s1.heap.objs.size + 1, s1.heap.objs.size], _, _, H1, rfl, I1.kept (t' := s1.toks) hk, turn_enumA true a _ _, ⟨⟨.none, he⟩, hit, Nat.succ_ne_self _⟩, fpo, q⟩
  | false =>
    refine call_enumT isq fun h' he hit hk => wpAny_pyIter_enum he ?_
    exact ⟨_, [s1.heap.objs.size + 1, s1.heap.objs.size], _, _, H1, rfl, I1.kept (t' := s1.toks) hk, turn_enumA false a _ _, ⟨⟨.none, he⟩, isIt_new hit, Nat.succ_ne_self _⟩, fpo, q⟩
end Dl

/-! own layer: the rules with the written part named -/
namespace Dl
open PySem PySem.Spec L2
section
variable {X : Cx}
theorem hu64 {A : Around} {n : Nat} (h : Room n A) : A.units + 64 < cLine := h.units
theorem hu65 {A : Around} {n : Nat} (h : Room n A) : A.units + 65 < cLine := by have := h.un; omega
theorem hu0 {A : Around} {n : Nat} (h : Room n A) : A.units < cLine := h.units0
theorem qAdd (K : PySem.W.Frag) (h : X.K = K := by rfl) : OpR X (binaryOp .Add) (rAdd K) := by subst h; exact oAdd
theorem qMul (K : PySem.W.Frag) (h : X.K = K := by rfl) : OpR X (binaryOp .Mult) (rMul K) := by subst h; exact oMul
theorem qEq (K : PySem.W.Frag) (hu : X.A.units + 64 < cLine) (h : X.K = K := by rfl) : OpR X (compareOp .Eq) (rEqD K) := by subst h; exact oEq hu
theorem qNe (K : PySem.W.Frag) (hu : X.A.units + 64 < cLine) (h : X.K = K := by rfl) : OpR X (compareOp .NotEq) (rNeD K) := by subst h; exact oNe hu
theorem qLt (K : PySem.W.Frag) (hu : X.A.units < cLine) (h : X.K = K := by rfl) : OpR X (compareOp .Lt) (rLtA K) := by subst h; exact oLt hu
theorem qSl (K : PySem.W.Frag) (h : X.K = K := by rfl) : SlR X (rSl K) := by subst h; exact oSl
theorem qIx (K : PySem.W.Frag) (h : X.K = K := by rfl) : IxR X (rIx K) := by subst h; exact ix_seq
theorem qLen (K : PySem.W.Frag) (h : X.K = K := by rfl) : CallR X (.builtin "len") (bLen K) := by subst h; exact cLen
theorem qList (K : PySem.W.Frag) (h : X.K = K := by rfl) : CallR X (.type "list") (bList K) := by subst h; exact cList
theorem qTuple (K : PySem.W.Frag) (h : X.K = K := by rfl) : CallR X (.type "tuple") (bTuple K) := by subst h; exact cTuple
theorem qSum (K : PySem.W.Frag) (h : X.K = K := by rfl) (hc : X.calm = true := by rfl) : CallR X (.builtin "sum") (rSum K) := by subst h; exact cSum hc
theorem qAll (K : PySem.W.Frag) (h : X.K = K := by rfl) (hc : X.calm = true := by rfl) : CallR X (.builtin "all") (rAll K) := by subst h; exact cAll hc
theorem qRepr (K : PySem.W.Frag) (hG : X.A.guards = some []) (hu : X.A.units + 64 < cLine) (h : X.K = K := by rfl) : CallR X (.builtin "repr") (bRepr K) := by subst h; exact cRepr hG hu
variable {tg e : Expr} {te : TE}
theorem qSeq (K : PySem.W.Frag) (he : PE X e te) (h : X.K = K := by rfl) : PI X tg e (iSeq K te) := by subst h; exact pi_seq he
theorem qEnum (K : PySem.W.Frag) {ta : TA} {p pos tpos : Pos} {elts : List Expr} {kk : Nat} (hm : X.mg "enumerate" = none) (ha : PA X [e] ta) (h : X.K = K := by rfl) (hg : Gl X "enumerate" := by rfl) (hs : starEach [e] X.env = [(false, eval e X.env)] := by rfl) :
    PI X (.Tuple elts kk tpos) (.Call (.Name "enumerate" p) [e] [] pos) (iEnumA K ta) := by subst h; exact pi_enumA hm ha hg hs
theorem qTup (K : PySem.W.Frag) (n : Nat) {es : List Expr} {k : Nat} {t : TGs} {pos : Pos} (hp : PGs X es t) (h : X.K = K := by rfl) (hc : X.calm = true := by rfl) (hn : (assignEach es X.env).length = n := by rfl) (hst : (assignEach es X.env).findIdx? (·.1) = none := by rfl) :
    PG X (.Tuple es k pos) (gTup K n t) := by subst h; exact pg_tup hc hp hn hst
theorem qTruth (K : PySem.W.Frag) (ha : PE X e te) (he : ∀ whole, isTrue e X.env whole = (do let v ← whole; standAt e.pos; holding [v] (truthy v))) (h : X.K = K := by rfl) : PT X e (tTr K te) := by subst h; exact pt_truth ha he
theorem kBm (K : PySem.W.Frag) {T : String} {r : V → List V → Hp → VK → Prop} {to : TE} {t : TA} (h : PE X e (tBM X.K T r to t)) (hK : X.K = K := by rfl) : PE X e (tBM K T r to t) := by subst hK; exact h
theorem kBm0 (K : PySem.W.Frag) {T : String} {r : V → List V → Hp → VK → Prop} {to : TE} (h : PE X e (tBM0 X.K T r to)) (hK : X.K = K := by rfl) : PE X e (tBM0 K T r to) := by subst hK; exact h
end
theorem cmw {i j : Int} (h1 : -(2 ^ 62) < i) (h2 : i < 2 ^ 62) (h3 : -(2 ^ 62) < j) (h4 : j < 2 ^ 62) : CMulW i j :=
  wide_mul (a := 62) (b := 62) (by omega) (by omega) (by decide) (by decide) (by decide)
theorem cdv {i j : Int} (h1 : 0 < j) (h2 : j < 2 ^ 62) : CDivW i j := wide_div (b := 62) h1 (by omega) (by decide) (by decide)
end Dl

/-! own layer: the bag; more words -/
namespace Dl
open PySem PySem.Spec L2
section
variable {X : Cx} {pins : List (Addr × Obj)} {σ : L2.St} {H : Hp} {s : Shared}
def BagV (a s i : Int) : Prop := 0 ≤ a ∧ 0 ≤ s ∧ s < 2147483647 ∧ 0 ≤ i
theorem bag_open {p c : Addr} (I : Inv X pins σ H s) (h : H p = some (.ext (BagO p c))) : ∃ a b i, BagV a b i ∧ Inv X pins σ (upd H p (.lst [.int a, .int b, .int i, .ref c])) s := by
  obtain ⟨⟨a, b, i, ta, tb, ti, n, ho, h1, h2, h3, h4⟩, _⟩ := I.hok p _ h
  refine ⟨a, b, i, ⟨h1, h2, h3, h4⟩, ?_⟩
  refine I.write (x := p) (e := p) (h' := s.heap) (t' := s.toks) (by rw [h]; trivial) (.inl rfl) (fun _ _ _ e => e) ⟨_, ho⟩ ?_
  exact ⟨by show 4 ≤ sizeLine; decide, [.int a ta, .int b tb, .int i ti, .ref c], n, .cons ⟨_, rfl⟩ (.cons ⟨_, rfl⟩ (.cons ⟨_, rfl⟩ (.cons rfl .nil))), ho⟩
theorem bag_close {p c : Addr} {a b i : Int} (I : Inv X pins σ H s) (h : H p = some (.lst [.int a, .int b, .int i, .ref c])) (hv : BagV a b i) : Inv X pins σ (upd H p (.ext (BagO p c))) s := by
  obtain ⟨_, its, n, rv, ho⟩ := I.hok p _ h
  obtain ⟨h1, h2, h3, h4⟩ := hv
  have obj : ∃ (a' b' i' : Int) (ta tb ti : Tok) (n : Nat), s.heap.get? p = some { cls := .type "list", data := .seq #[.int a' ta, .int b' tb, .int i' ti, .ref c] n } ∧ 0 ≤ a' ∧ 0 ≤ b' ∧ b' < 2147483647 ∧ 0 ≤ i' := by
    cases rv with
    | cons r1 rv => cases rv with
      | cons r2 rv => cases rv with
        | cons r3 rv => cases rv with
          | cons r4 rv =>
            cases rv
            obtain ⟨ta, rfl⟩ := r1
            obtain ⟨tb, rfl⟩ := r2
            obtain ⟨ti, rfl⟩ := r3
            cases r4
            exact ⟨a, b, i, ta, tb, ti, n, ho, h1, h2, h3, h4⟩
  refine I.write (x := p) (e := p) (h' := s.heap) (t' := s.toks) (by rw [h]; trivial) (.inl rfl) (fun _ _ _ e => e) ⟨_, ho⟩ ⟨obj, ⟨_, ho⟩, ?_⟩
  rintro k1 k2 ⟨a', b', i', ta, tb, ti, n, q, r⟩ hk
  exact ⟨a', b', i', ta, tb, ti, n, hk _ q, r⟩
theorem upd_back {p : Addr} {u o : HO} (h : H p = some o) : upd (upd H p u) p o = H := by
  rw [upd_upd]
  funext b
  by_cases hb : b = p
  · subst hb
    rw [upd_same, h]
  · rw [upd_ne hb]
theorem bag_back {p c : Addr} {a b i : Int} {u : HO} (h : H p = some (.ext (BagO p c))) (hv : BagV a b i) (I : Inv X pins σ (upd (upd H p u) p (.lst [.int a, .int b, .int i, .ref c])) s) : Inv X pins σ H s := by
  have I2 := bag_close I upd_same hv
  rw [upd_upd, upd_back h] at I2
  exact I2
end
def rIxBag : R2 := fun x y H Q => ∃ (p c : Addr) (ns : List Int), x = .ref p ∧ H p = some (.ext (BagO p c)) ∧ FzL H c (ns.map V.int) ∧ Cells ns ∧
  ((y = .int 0 ∧ ∀ a, 0 ≤ a → Q (.int a) H) ∨ (y = .int 1 ∧ ∀ b, 0 ≤ b → b < 2147483647 → Q (.int b) H) ∨ (y = .int 2 ∧ ∀ i, 0 ≤ i → Q (.int i) H) ∨ (y = .int 3 ∧ Q (.ref c) H))
theorem ix_bag {X : Cx} : IxR X rIxBag := by
  intro value slice pins s σ H x y v u Q I rx ry h hs
  obtain ⟨p, c, ns, rfl, hp, hc, hn, h⟩ := h
  obtain ⟨a, b, i, hv, I1⟩ := bag_open I hp
  have go : ∀ (k : Nat) (z : V), ([.int a, .int b, .int i, .ref c] : List V)[k]? = some z → y = .int (k : Nat) → Q z H → wpAny (model X.prog X.w) X.A (PyProof.Rows.subscriptTail value slice v u) (EP X pins σ Q) X.xe s := by
    intro k z hz hy q
    subst hy
    have r : rIxL X.K (.ref p) (.int (k : Nat)) (upd H p (.lst [.int a, .int b, .int i, .ref c])) (fun z' H' => H' = upd H p (.lst [.int a, .int b, .int i, .ref c]) ∧ z' = z) :=
      ⟨p, _, _, z, rfl, rfl, SqL.of upd_same, atI_nat hz, rfl, rfl⟩
    refine thn (ix_list value slice pins s σ _ _ _ v u _ I1 rx ry r hs) fun w s' ⟨z', H', I2, r2, hH, hz'⟩ => ?_
    subst hH hz'
    exact ⟨_, H, bag_back (u := .lst []) hp hv (by rw [upd_upd]; exact I2), r2, q⟩
  obtain ⟨v1, v2, v3, v4⟩ := hv
  rcases h with ⟨rfl, q⟩ | ⟨rfl, q⟩ | ⟨rfl, q⟩ | ⟨rfl, q⟩
  · exact go 0 _ rfl rfl (q a v1)
  · exact go 1 _ rfl rfl (q b v2 v3)
  · exact go 2 _ rfl rfl (q i v4)
  · exact go 3 _ rfl rfl q
def rSetBag : V → V → V → Hp → (Hp → Prop) → Prop := fun o i v H Q => ∃ (p c : Addr), o = .ref p ∧ H p = some (.ext (BagO p c)) ∧
  ((i = .int 0 ∧ ∃ a, v = .int a ∧ 0 ≤ a) ∨ (i = .int 1 ∧ ∃ b, v = .int b ∧ 0 ≤ b ∧ b < 2147483647) ∨ (i = .int 2 ∧ ∃ j, v = .int j ∧ 0 ≤ j)) ∧ Q H
theorem set_bag {X : Cx} : PSet X rSetBag := by
  intro pins s σ H o i v ov iv u Q I ro ri rv h
  obtain ⟨p, c, rfl, hp, h, q⟩ := h
  obtain ⟨a, b, j, hv, I1⟩ := bag_open I hp
  obtain ⟨v1, v2, v3, v4⟩ := id hv
  have go : ∀ (k : Nat) (a' b' j' : Int), BagV a' b' j' → i = .int (k : Nat) → k < 4 → ([.int a, .int b, .int j, .ref c] : List V).set k v = [.int a', .int b', .int j', .ref c] →
      wpAny (model X.prog X.w) X.A (setItem ov iv u) (fun _ s' => ∃ H', Inv X pins σ H' s' ∧ Q H') X.xe s := by
    intro k a' b' j' hv' hi hk he
    subst hi
    have hix : ixN 4 ((k : Nat) : Int) = some k := by
      unfold ixN
      rw [if_pos (by omega), if_pos (by omega)]
      simp
    have r : rSetL (.ref p) (.int (k : Nat)) v (upd H p (.lst [.int a, .int b, .int j, .ref c])) (fun H' => H' = upd (upd H p (.lst [.int a, .int b, .int j, .ref c])) p (.lst [.int a', .int b', .int j', .ref c])) :=
      ⟨p, _, _, k, rfl, rfl, upd_same, hix, by rw [he]⟩
    refine thn (set_list pins s σ _ _ _ v ov iv u _ I1 ro ri rv r) fun w s' ⟨H', I2, hH⟩ => ?_
    subst hH
    exact ⟨H, bag_back hp hv' I2, q⟩
  rcases h with ⟨rfl, a', rfl, h1⟩ | ⟨rfl, b', rfl, h1, h2⟩ | ⟨rfl, j', rfl, h1⟩
  · exact go 0 a' b j ⟨h1, v2, v3, v4⟩ rfl (by decide) rfl
  · exact go 1 a b' j ⟨v1, h1, h2, v4⟩ rfl (by decide) rfl
  · exact go 2 a b j' ⟨v1, v2, v3, h1⟩ rfl (by decide) rfl
theorem pset_or {X : Cx} {t t' : TSet} (h : PSet X t) (h' : PSet X t') : PSet X (fun o i v H Q => t o i v H Q ∨ t' o i v H Q) :=
  fun pins s σ H o i v ov iv u Q I ro ri rv q => q.elim (h pins s σ H o i v ov iv u Q I ro ri rv) (h' pins s σ H o i v ov iv u Q I ro ri rv)
def rIxA (K : PySem.W.Frag) : R2 := fun x y H Q => rIx K x y H Q ∨ rIxBag x y H Q
theorem qIxA {X : Cx} (K : PySem.W.Frag) (h : X.K = K := by rfl) : IxR X (rIxA K) := by subst h; exact .or ix_seq ix_bag
def rSetA : TSet := fun o i v H Q => rSetL o i v H Q ∨ rSetBag o i v H Q
theorem qSet {X : Cx} : PSet X rSetA := pset_or set_list set_bag
section
variable {K : PySem.W.Frag} {δ : List Slot} {k : Res → Prop} {te ta tb : TE} {nx : List Slot → Prop} {rt : Res → Prop} {bk ct : List Slot → Prop}
inductive IxQ : Res → Res → (Res → Prop) → Prop
  | seq {x y : Res} {k : Res → Prop} : IxP x y k → IxQ x y k
  | bag0 {k : Res → Prop} : (∀ a : Int, 0 ≤ a → k (.dat (.int a))) → IxQ .bag (.dat (.int 0)) k
  | bag1 {k : Res → Prop} : (∀ b : Int, 0 ≤ b → b < 2147483647 → k (.dat (.int b))) → IxQ .bag (.dat (.int 1)) k
  | bag2 {k : Res → Prop} : (∀ i : Int, 0 ≤ i → k (.dat (.int i))) → IxQ .bag (.dat (.int 2)) k
  | bag3 {k : Res → Prop} : (∀ ns : List Int, Cells ns → k (.dat (.list (ns.map .int)))) → IxQ .bag (.dat (.int 3)) k
theorem ixq_lst {x : Res} {ds : List PyData} {i : Int} {d : PyData} (h1 : x.items = some ds) (h2 : atI ds i = some d) (g : k (.dat d)) : IxQ x (.dat (.int i)) k := .seq (.lst h1 h2 g)
theorem ixq_tup {ds : List PyData} {i : Int} {d : PyData} (h2 : atI ds i = some d) (g : k (.dat d)) : IxQ (.dat (.tuple ds)) (.dat (.int i)) k := .seq (.tup h2 g)
theorem opIxA : OpOk K (rIxA K) IxQ := by
  intro B H H1 x y rx ry k Q e0 e1 ox oy p q
  cases p with
  | seq p => exact .inl (opIx B H H1 x y rx ry k Q e0 e1 ox oy p q)
  | bag0 g =>
    obtain ⟨p, rfl, c, ns, h1, h2, h3⟩ := ox
    cases oy
    exact .inr ⟨p, c, ns, rfl, h1, h2, h3, .inl ⟨rfl, fun a ha => q _ _ _ (Same.refl _) rInt (g a ha)⟩⟩
  | bag1 g =>
    obtain ⟨p, rfl, c, ns, h1, h2, h3⟩ := ox
    cases oy
    exact .inr ⟨p, c, ns, rfl, h1, h2, h3, .inr (.inl ⟨rfl, fun a ha hb => q _ _ _ (Same.refl _) rInt (g a ha hb)⟩)⟩
  | bag2 g =>
    obtain ⟨p, rfl, c, ns, h1, h2, h3⟩ := ox
    cases oy
    exact .inr ⟨p, c, ns, rfl, h1, h2, h3, .inr (.inr (.inl ⟨rfl, fun a ha => q _ _ _ (Same.refl _) rInt (g a ha)⟩))⟩
  | bag3 g =>
    obtain ⟨p, rfl, c, ns, h1, h2, h3⟩ := ox
    cases oy
    exact .inr ⟨p, c, ns, rfl, h1, h2, h3, .inr (.inr (.inr ⟨rfl, q _ _ _ (Same.refl _) (rLst h2 (ImAll.ints ns)) (g ns h3)⟩))⟩
theorem slot_bag {B H : Hp} {σ : L2.St} {i : Nat} (R : Rel K B H σ δ) (h : δ[i]? = some .bag) : ∃ (p c : Addr) (ns : List Int), σ[i]? = some (some (.ref p)) ∧ H p = some (.ext (BagO p c)) ∧ FzL H c (ns.map V.int) ∧ Cells ns := by
  obtain ⟨p, h1, c, ns, h2, h3, h4⟩ := R.at_ i _ h
  refine ⟨p, c, ns, ?_, h2, h3, h4⟩
  cases hz : σ[i]? with
  | none => rw [hz] at h1; cases h1
  | some o => rw [hz] at h1; exact congrArg some h1
/-- xs[j] = d of an owned list, of the bag -/
theorem gs_subA {i : Nat} {ti : TE} {d : PyData} {ds : List PyData} {k : List Slot → Prop} (hi : δ[i]? = some (.own ds)) (h : EvC K ti δ fun y => ∃ (n : Int) (j : Nat), y = .dat (.int n) ∧ ixN ds.length n = some j ∧ k (δ.set i (.own (ds.set j d)))) :
    GS K (gSub (tVar i) ti rSetA) (.dat d) δ k := by
  intro B H H1 σ v R e o Q q
  obtain ⟨w, hw, g⟩ := gs_sub hi h B H H1 σ v R e o Q q
  obtain ⟨p, vs, hp, hb, hv, im⟩ := slot_own (R.grow e) hi
  rw [hp] at hw
  cases hw
  refine ⟨_, hp, ?_⟩
  refine h B H1 σ (R.grow e) _ fun y H2 ry e2 oy ⟨n, j, hy, hn, hk⟩ => ?_
  subst hy
  cases oy
  have hv2 := e2 _ _ hv
  have im2 := im.to (per_same e2)
  refine .inl ⟨p, vs, n, j, rfl, rfl, hv2, by rw [im2.length]; exact hn, ?_⟩
  exact q _ _ _ (((R.grow e).grow e2).mut hi hp hv2 (ImAll.set (Im.to o (per_same e2)) j im2)) ((per_same e2).trans (per_upd hv2 rfl)) hk
def BagPut : Int → Int → Prop := fun j n => (j = 0 ∧ 0 ≤ n) ∨ (j = 1 ∧ 0 ≤ n ∧ n < 2147483647) ∨ (j = 2 ∧ 0 ≤ n)
theorem bagput {p c : Addr} {H : Hp} {j n : Int} {Q : Hp → Prop} (h1 : H p = some (.ext (BagO p c))) (hp : BagPut j n) (q : Q H) : rSetA (.ref p) (.int j) (.int n) H Q := by
  refine .inr ⟨p, c, rfl, h1, ?_, q⟩
  rcases hp with ⟨rfl, h⟩ | ⟨rfl, h⟩ | ⟨rfl, h⟩
  · exact .inl ⟨rfl, n, rfl, h⟩
  · exact .inr (.inl ⟨rfl, n, rfl, h⟩)
  · exact .inr (.inr ⟨rfl, n, rfl, h⟩)
theorem gs_subBag {i : Nat} {ti : TE} {n : Int} {k : List Slot → Prop} (hi : δ[i]? = some .bag) (h : EvC K ti δ fun y => ∃ j : Int, y = .dat (.int j) ∧ BagPut j n ∧ k δ) : GS K (gSub (tVar i) ti rSetA) (.dat (.int n)) δ k := by
  intro B H H1 σ v R e o Q q
  cases o
  obtain ⟨p, c, ns, hp, h1, h2, h3⟩ := slot_bag (R.grow e) hi
  refine ⟨_, hp, h B H1 σ (R.grow e) _ fun y H2 ry e2 oy ⟨j, hy, hj, hk⟩ => ?_⟩
  subst hy
  cases oy
  exact bagput (e2 _ _ h1) hj (q _ _ _ ((R.grow e).grow e2) (per_same e2) hk)
/-- bag[2] += 1 -/
def rGetA (K : PySem.W.Frag) : V → V → Hp → VK → Prop := fun o i H Q => rIxBag o i H Q
theorem get_bag {X : Cx} : PGet X rIxBag := by
  intro pins s σ H o i ov iv Q I ro ri h
  obtain ⟨p, c, ns, rfl, hp, hc, hn, h⟩ := h
  obtain ⟨a, b, j, hv, I1⟩ := bag_open I hp
  obtain ⟨v1, v2, v3, v4⟩ := id hv
  cases ro
  obtain ⟨its, rv, pl, hz⟩ := I1.list (SqL.of upd_same)
  have go : ∀ (k : Nat) (z : V), ([.int a, .int b, .int j, .ref c] : List V)[k]? = some z → i = .int (k : Nat) → k < 4 → Q z H → wpAny (model X.prog X.w) X.A (getItem (.ref p) iv) (EP X pins σ Q) X.xe s := by
    intro k z hz' hi hk q
    subst hi
    obtain ⟨t, rfl⟩ := ri
    obtain ⟨u, hu, ru⟩ := rv.get hz'
    exact PySem.wpAny_getItem_list pl.isList (by omega) (by omega) (by simpa using hu) ⟨z, H, I, ru, q⟩
  rcases h with ⟨rfl, q⟩ | ⟨rfl, q⟩ | ⟨rfl, q⟩ | ⟨rfl, q⟩
  · exact go 0 _ rfl rfl (by decide) (q a v1)
  · exact go 1 _ rfl rfl (by decide) (q b v2 v3)
  · exact go 2 _ rfl rfl (by decide) (q j v4)
  · exact go 3 _ rfl rfl (by decide) q
theorem sd_augBag {i : Nat} {f : Int → Int → Int} (hi : δ[i]? = some .bag) (h : EvC K te δ fun x => ∃ b, x = .dat (.int b) ∧ ∀ a : Int, 0 ≤ a → 0 ≤ f a b ∧ nx δ) : SD K (tAugS (tVar i) (tC (.int 2)) te rIxBag (ipI f) rSetA) ⟨nx, rt, bk, ct⟩ δ := by
  intro B H σ R E C
  obtain ⟨p, c, ns, hp, h1, h2, h3⟩ := slot_bag R hi
  refine ⟨_, hp, ⟨p, c, ns, rfl, h1, h2, h3, .inr (.inr (.inl ⟨rfl, fun a ha => ?_⟩))⟩⟩
  refine h B H σ R _ fun x H2 rx e2 ox ⟨b, hx, hk⟩ => ?_
  subst hx
  cases ox
  obtain ⟨g1, g2⟩ := hk a ha
  exact ⟨a, b, rfl, rfl, bagput (e2 _ _ h1) (.inr (.inr ⟨rfl, g1⟩)) (C.nx _ _ _ (R.grow e2) g2)⟩

/-! ### the bag is made -/
def tBagC (te : TE) : TE := fun σ H Q => te σ H fun v H1 => ∃ (p c : Addr) (a b i : Int), v = .ref p ∧ H1 p = some (.lst [.int a, .int b, .int i, .ref c]) ∧ BagV a b i ∧ Q v (upd H1 p (.ext (BagO p c)))
theorem pe_bagc {X : Cx} {e : Expr} {te : TE} (h : PE X e te) : PE X e (tBagC te) := by
  refine ⟨fun pins s σ H Q I hq => ?_⟩
  refine thn (h.run pins s σ H _ I hq) fun u s' ⟨v, H1, I1, rv, p, c, a, b, i, hv, hp, hb, q⟩ => ?_
  exact ⟨v, _, bag_close I1 hp hb, rv, q⟩
theorem ec_bagc (h : EvC K te δ fun x => ∃ (a b i : Int) (ns : List Int), x = .fresh [.int a, .int b, .int i, .list (ns.map .int)] ∧ BagV a b i ∧ Cells ns ∧ k .bag) : EvC K (tBagC te) δ k := by
  intro B H σ R Q q
  refine h B H σ R _ fun v H1 x e o ⟨a, b, i, ns, hx, hb, hn, hk⟩ => ?_
  subst hx
  obtain ⟨p, vs, rfl, h1, h2, im⟩ := o
  cases im with
  | cons i1 im => cases im with
    | cons i2 im => cases im with
      | cons i3 im => cases im with
        | cons i4 im =>
          cases im
          cases i1; cases i2; cases i3
          cases i4 with
          | lst hf ha =>
            rw [ha.of_ints] at hf
            refine ⟨p, _, a, b, i, rfl, h2, hb, q _ _ .bag (fun b' o' hb' => ?_) ⟨p, rfl, _, ns, upd_same, ?_, hn⟩ hk⟩
            · rw [upd_ne (ne_of_none hb' h1)]
              exact e _ _ hb'
            · obtain ⟨ob, hf⟩ := hf
              refine ⟨ob, ?_⟩
              rw [upd_ne fun z => by rw [z, h2] at hf; cases hf]
              exact hf
/-! ### * once more: one side within 2 ^ 64 -/
def rMulA (K : PySem.W.Frag) : R2 := fun x y H Q => rMul K x y H Q ∨ rI CMul (fun i j => .int (i * j)) x y H Q
theorem qMulA {X : Cx} (K : PySem.W.Frag) (h : X.K = K := by rfl) : OpR X (binaryOp .Mult) (rMulA K) := by subst h; exact .or oMul op_mul
inductive MulQ : Res → Res → (Res → Prop) → Prop
  | w {x y : Res} {k : Res → Prop} : MulP x y k → MulQ x y k
  | c {i j : Int} {k : Res → Prop} : CMul i j → k (.dat (.int (i * j))) → MulQ (.dat (.int i)) (.dat (.int j)) k
theorem opMulA : OpOk K (rMulA K) MulQ := by
  intro B H H1 x y rx ry k Q e0 e1 ox oy p q
  cases p with
  | w p => exact .inl (opMul B H H1 x y rx ry k Q e0 e1 ox oy p q)
  | c hc g =>
    cases ox; cases oy
    exact .inr ⟨_, _, rfl, rfl, hc, q _ _ _ (Same.refl _) rInt g⟩
theorem mulq_l {i j : Int} (h1 : -(2 ^ 64) < i) (h2 : i < 2 ^ 64) (g : k (.dat (.int (i * j)))) : MulQ (.dat (.int i)) (.dat (.int j)) k := .c (.inl ⟨h1, h2⟩) g
theorem mulq_r {i j : Int} (h1 : -(2 ^ 64) < j) (h2 : j < 2 ^ 64) (g : k (.dat (.int (i * j)))) : MulQ (.dat (.int i)) (.dat (.int j)) k := .c (.inr ⟨h1, h2⟩) g
theorem mulq_w {i j : Int} (h : CMulW i j) (g : k (.dat (.int (i * j)))) : MulQ (.dat (.int i)) (.dat (.int j)) k := .w (.int h g)

/-! ### in, not in: a list -/
theorem qIn {X : Cx} (K : PySem.W.Frag) (hu : X.A.units + 65 < cLine) (h : X.K = K := by rfl) : OpR X (compareOp .In) (rInD K) := by subst h; exact op_inD hu
theorem qNotIn {X : Cx} (K : PySem.W.Frag) (hu : X.A.units + 65 < cLine) (h : X.K = K := by rfl) : OpR X (compareOp .NotIn) (rNotInD K) := by subst h; exact op_notInD hu
inductive InP (f : Bool → Bool) : Res → Res → (Res → Prop) → Prop
  | lst {x y : Res} {d : PyData} {ds : List PyData} {k : Res → Prop} : x.data = some d → y.items = some ds → SeqAt.shaped d = true → SeqAt.shaped (.list ds) = true → k (.dat (.bool (f (ds.any fun z => PyData.eqv z d)))) → InP f x y k
theorem items_data {y : Res} {ds : List PyData} (h : y.items = some ds) : y.data = some (.list ds) := by
  cases y with
  | dat d => cases d <;> cases h; rfl
  | bor _ => cases h; rfl
  | len _ => cases h; rfl
  | fresh _ => cases h; rfl
  | bag => cases h
theorem opIn : OpOk K (rInD K) (InP id) := by
  intro B H H1 x y rx ry k Q e0 e1 ox oy p q
  cases p with
  | lst hx hy sx sy g => exact ⟨_, _, ox.dp (e0.trans e1) hx, oy.dp (e0.trans e1) (items_data hy), sx, sy, q _ _ _ (Same.refl _) rBl g⟩
theorem opNotIn : OpOk K (rNotInD K) (InP not) := by
  intro B H H1 x y rx ry k Q e0 e1 ox oy p q
  cases p with
  | lst hx hy sx sy g => exact ⟨_, _, ox.dp (e0.trans e1) hx, oy.dp (e0.trans e1) (items_data hy), sx, sy, q _ _ _ (Same.refl _) rBl g⟩

/-! ### xs.insert(i, e); f(..).append(e) -/
def rInsert : V → List V → Hp → VK → Prop := fun x vs H Q => ∃ (l : Addr) (xs : List V) (i : Int) (y : V), x = .ref l ∧ vs = [.int i, y] ∧ H l = some (.lst xs) ∧ xs.length < sizeLine ∧ 0 ≤ i ∧ i < 2 ^ 63 ∧
  Q .non (upd H l (.lst (xs.take i.toNat ++ [y] ++ xs.drop i.toNat)))
theorem mInsert {X : Cx} : MtR X "list.insert" rInsert := mt_insert
theorem sd_insert {i : Nat} {ds : List PyData} (hi : δ[i]? = some (.own ds)) (hz : ds.length < 1000000) (h : EvC K ta δ fun x => EvC K te δ fun y => ∃ (n : Int) (d : PyData), x = .dat (.int n) ∧ y = .dat d ∧ 0 ≤ n ∧ n < 2 ^ 63 ∧ nx (δ.set i (.own (ds.take n.toNat ++ [d] ++ ds.drop n.toNat)))) :
    SD K (tDrop (tBM K "list" rInsert (tVar i) (tCons ta (tCons te tNil)))) ⟨nx, rt, bk, ct⟩ δ := by
  intro B H σ R E C
  obtain ⟨p, vs, hp, hb, hv, im⟩ := slot_own R hi
  refine ⟨_, hp, .inl ⟨rfl, vs, SqL.of hv⟩, h B H σ R _ fun x H1 rx e o g => ?_⟩
  refine g B H1 σ (R.grow e) _ fun y H2 ry e2 o2 ⟨n, d, hx, hy, h1, h2, hk⟩ => ?_
  subst hx hy
  cases o
  have hv2 := e2 _ _ (e _ _ hv)
  have im2 := im.to (per_same (e.trans e2))
  refine ⟨p, vs, n, y, rfl, rfl, hv2, by rw [im.length]; exact Nat.lt_trans hz (by decide), h1, h2, C.nx _ _ _ ((R.grow (e.trans e2)).mut hi hp hv2 ?_) hk⟩
  exact ((im2.take _).append (.one o2)).append (im2.drop _)
theorem sd_appFresh {tf : TE} {t1 : TE} (h : EvC K tf δ fun x => ∃ ds, x = .fresh ds ∧ ds.length < 1000000 ∧ EvC K t1 δ fun y => ∃ d, y = .dat d ∧ nx δ) : SD K (tDrop (tBM K "list" rAppend tf (tCons t1 tNil))) ⟨nx, rt, bk, ct⟩ δ := by
  intro B H σ R E C
  refine h B H σ R _ fun x H1 rx e o ⟨ds, hx, hz, g⟩ => ?_
  subst hx
  obtain ⟨p, vs, rfl, h1, h2, im⟩ := o
  refine ⟨.inl ⟨rfl, vs, SqL.of h2⟩, g B H1 σ (R.grow e) _ fun y H2 ry e2 o2 ⟨d, hy, hk⟩ => ?_⟩
  subst hy
  refine ⟨p, vs, y, rfl, rfl, e2 _ _ h2, by rw [im.length]; exact Nat.lt_trans hz (by decide), C.nx _ _ _ (R.grow fun b o hb => ?_) hk⟩
  rw [upd_ne (ne_of_none hb h1)]
  exact e2 _ _ (e _ _ hb)
end
end Dl

/-! own layer: comprehensions in use -/
namespace Dl
open PySem PySem.Spec L2
section
variable {K : PySem.W.Frag} {δ : List Slot} {k : Res → Prop} {te ta tb : TE} {g : TG} {tt : TT} {ds : List PyData} {vs : List Nat}
theorem et_yes {kb : Bool → Prop} (q : kb true) : EvT K tYes δ kb := fun B H σ R Q g => g true H (Same.refl H) q
theorem ite_r1 {ta : TA} {k : List PyData → Prop} (h : EvA K ta δ fun rs => ∃ j : Int, rs = [.dat (.int j)] ∧ -(2 ^ 62) ≤ j ∧ j < 2 ^ 62 ∧ k (rgD 0 j.toNat)) : ItE K (iRng1 ta) δ k := (itl_r1 h).toE
theorem ite_r2 {ta : TA} {k : List PyData → Prop} (h : EvA K ta δ fun rs => ∃ i j : Int, rs = [.dat (.int i), .dat (.int j)] ∧ (-(2 ^ 62) ≤ i ∧ i < 2 ^ 62 ∧ -(2 ^ 62) ≤ j ∧ j < 2 ^ 62) ∧ k (rgD i (j - i).toNat)) : ItE K (iRng2 ta) δ k := (itl_r2 h).toE
theorem GE.imp {x : Res} {W : Nat → Prop} {k k' : List Slot → Prop} (h : GE K g x δ W k) (hk : ∀ δ', k δ' → k' δ') : GE K g x δ W k' :=
  fun B H H1 σ v R e o Q q => h B H H1 σ v R e o Q fun σ' δ' R' hl hw kd => q σ' δ' R' hl hw (hk δ' kd)
/-- every item gives one: what is known of each -/
theorem lc_all (P : Nat → PyData → Prop) (hz : ds.length ≤ 1000000) (h : ∀ (i : Nat) (d : PyData), ds[i]? = some d → GE K g (.dat d) (wipeS δ vs) (fun j => j ∈ vs) fun δ' => EvC K te δ' fun r => ∃ e, r = .dat e ∧ P i e)
    (hk : ∀ out : List PyData, out.length = ds.length → (∀ (i : Nat) (e : PyData), out[i]? = some e → P i e) → k (.fresh out)) : LcP K ds g tYes te vs δ k := by
  refine ⟨fun i acc => acc.length = i ∧ ∀ (j : Nat) (e : PyData), acc[j]? = some e → P j e, ⟨rfl, fun j e z => by simp at z⟩, hz, fun i d acc hd ⟨hl, ha⟩ => ?_, fun out ⟨hl, ha⟩ => hk out hl ha⟩
  refine (h i d hd).imp fun δ' ev => et_yes (Br.t (ev.imp fun r ⟨e, hr, pe⟩ => ⟨e, hr, by simp [hl], fun j x hx => ?_⟩))
  by_cases hj : j < acc.length
  · rw [List.getElem?_append_left hj] at hx
    exact ha j x hx
  · rw [List.getElem?_append_right (by omega)] at hx
    have : j = i := by
      have := (List.getElem?_eq_some_iff.mp hx).1
      simp at this
      omega
    subst this
    rw [hl, Nat.sub_self] at hx
    simp at hx
    rw [← hx]
    exact pe
/-- every item gives one: the list told -/
theorem lc_fn (out : List PyData) (hl : out.length = ds.length) (hz : ds.length ≤ 1000000) (h : ∀ (i : Nat) (d : PyData), ds[i]? = some d → GE K g (.dat d) (wipeS δ vs) (fun j => j ∈ vs) fun δ' => EvC K te δ' fun r => ∃ e, r = .dat e ∧ out[i]? = some e)
    (hk : k (.fresh out)) : LcP K ds g tYes te vs δ k := by
  refine lc_all (fun i e => out[i]? = some e) hz h fun o ho ha => ?_
  have : o = out := by
    refine List.ext_getElem? fun i => ?_
    by_cases hi : i < o.length
    · rw [List.getElem?_eq_getElem hi]
      exact (ha i _ (List.getElem?_eq_getElem hi)).symm
    · rw [List.getElem?_eq_none (by omega), List.getElem?_eq_none (by omega)]
  rw [this]
  exact hk
/-- with a test -/
theorem lc_fm (F : PyData → Option PyData) (hz : ds.length ≤ 1000000) (h : ∀ (i : Nat) (d : PyData), ds[i]? = some d → GE K g (.dat d) (wipeS δ vs) (fun j => j ∈ vs) fun δ' => EvT K tt δ' fun b => Br b (EvC K te δ' fun r => ∃ e, r = .dat e ∧ F d = some e) (F d = none))
    (hk : k (.fresh (ds.filterMap F))) : LcP K ds g tt te vs δ k := by
  refine ⟨fun i acc => acc = (ds.take i).filterMap F, rfl, hz, fun i d acc hd ha => ?_, fun out ho => ?_⟩
  · subst ha
    refine (h i d hd).imp fun δ' ev => ev.imp fun b br => ⟨fun hb => (br.1 hb).imp fun r ⟨e, hr, he⟩ => ⟨e, hr, ?_⟩, fun hb => ?_⟩
    · show _ = List.filterMap F (ds.take (i + 1))
      rw [List.take_add_one, hd, List.filterMap_append]
      simp [he]
    · show _ = List.filterMap F (ds.take (i + 1))
      rw [List.take_add_one, hd, List.filterMap_append]
      simp [br.2 hb]
  · subst ho
    rw [List.take_length]
    exact hk
end
end Dl

/-! own layer: what the draws of every law have in common -/
namespace Dl
open PySem PySem.Spec L2
section
variable {K : PySem.W.Frag} {δ : List Slot} {k : Res → Prop}
theorem intsP {P : Int → Prop} : ∀ (out : List PyData), (∀ (i : Nat) (e : PyData), out[i]? = some e → ∃ n, e = .int n ∧ P n) → ∃ ns : List Int, out = ns.map .int ∧ ∀ n ∈ ns, P n
  | [], _ => ⟨[], rfl, by simp⟩
  | d :: r, h => by
    obtain ⟨n, rfl, hn⟩ := h 0 d rfl
    obtain ⟨ns, rfl, hs⟩ := intsP r fun i e he => h (i + 1) e he
    exact ⟨n :: ns, rfl, by simpa using ⟨hn, hs⟩⟩
theorem cut_len (ds : List PyData) (m : Int) (h0 : 0 ≤ m) : (cutD ds none (some m)).length ≤ m.toNat := by
  unfold cutD HT.sIx
  simp only [List.length_take, List.length_drop]
  split <;> omega
theorem cut_mem {ds : List PyData} {lo hi : Option Int} {i : Nat} {d : PyData} (h : (cutD ds lo hi)[i]? = some d) : d ∈ ds :=
  List.mem_of_mem_drop (List.mem_of_mem_take (List.mem_of_getElem? h))
theorem cut_ints (ns : List Int) (lo hi : Option Int) : ∃ ms : List Int, cutD (ns.map PyData.int) lo hi = ms.map .int ∧ ∀ m ∈ ms, m ∈ ns := by
  unfold cutD
  rw [← List.map_drop, ← List.map_take]
  exact ⟨_, rfl, fun m hm => List.mem_of_mem_drop (List.mem_of_mem_take hm)⟩
theorem sd_join {t u : TS} {nx : List Slot → Prop} {rt : Res → Prop} {bk ct : List Slot → Prop} (δ0 : List Slot) (h : SD K t ⟨fun δ' => Wk δ' δ0, rt, bk, ct⟩ δ) (h2 : SD K u ⟨nx, rt, bk, ct⟩ δ0) : SD K (tSeq t u) ⟨nx, rt, bk, ct⟩ δ :=
  sd_mid _ h fun _ w => sd_wk w h2
theorem Br.dec {p : Prop} [Decidable p] {X Y : Prop} (h1 : p → X) (h2 : ¬ p → Y) : Br (decide p) X Y := ⟨fun h => h1 (of_decide_eq_true h), fun h => h2 (of_decide_eq_false h)⟩
theorem Br.nec {p : Prop} [Decidable p] {X Y : Prop} (h1 : ¬ p → X) (h2 : p → Y) : Br (!decide p) X Y := ⟨fun h => h1 (by simpa using h), fun h => h2 (by simpa using h)⟩
theorem Br.nei {i : Int} {X Y : Prop} (h1 : i ≠ 0 → X) (h2 : i = 0 → Y) : Br (i != 0) X Y := ⟨fun h => h1 (by simpa using h), fun h => h2 (by simpa using h)⟩
theorem Br.var {b : Bool} {X Y : Prop} (h1 : b = true → X) (h2 : b = false → Y) : Br b X Y := ⟨h1, h2⟩
theorem cut_le (ds : List PyData) (lo hi : Option Int) : (cutD ds lo hi).length ≤ ds.length := by
  unfold cutD
  simp only [List.length_take, List.length_drop]
  omega
theorem cell_first {ns : List Int} (ms : List Int) (h : ∀ n ∈ ns, 0 ≤ n) (hm : ∀ m ∈ ms, m ∈ ns) : ∃ c : Int, atI (ms.map PyData.int ++ [.int 0]) 0 = some (.int c) ∧ 0 ≤ c := by
  cases ms with
  | nil => exact ⟨0, rfl, by decide⟩
  | cons c r => exact ⟨c, atI_nat (j := 0) (by simp), h c (hm c (by simp))⟩
/-- data with a short text -/
structure Small (L D : Nat) (d : PyData) : Prop where
  sh : d.showable = true
  cl : d.canLay0 = true
  sl : d.shown.length ≤ L
  dp : d.depth ≤ D
theorem Small.mono {L L' D D' : Nat} {d : PyData} (h : Small L D d) (h1 : L ≤ L') (h2 : D ≤ D') : Small L' D' d := ⟨h.sh, h.cl, Nat.le_trans h.sl h1, Nat.le_trans h.dp h2⟩
theorem Small.tells {L D : Nat} {d : PyData} (h : Small L D d) (h1 : L ≤ 16777216) (h2 : D ≤ 60) : Tells d :=
  ⟨h.sh, Nat.le_trans h.sl (Nat.le_trans h1 (by decide)), by
    unfold SeqAt.shaped
    rw [h.cl]
    exact decide_eq_true (Nat.le_trans (Nat.le_trans h.dp h2) (by decide)), Nat.le_trans h.dp h2⟩
theorem small_int {i : Int} (k : Nat) (hk : 0 < k) (h9 : k ≤ 570) (h : i.natAbs < 10 ^ k) : Small (k + 1) 0 (.int i) := by
  refine ⟨?_, by simp [PyData.canLay0], ?_, by simp [PyData.depth]⟩
  · simp only [PyData.showable, decide_eq_true_eq]
    refine log2_small (Nat.lt_of_lt_of_le h ?_)
    exact Nat.le_trans (Nat.pow_le_pow_right (by decide) h9) (by decide +kernel)
  · rw [PyData.shown_int]
    show (Str.ofString (toString i)).length ≤ _
    rw [ofString_length]
    exact int_text_length_le10 hk h
theorem small_bool {b : Bool} : Small 6 0 (.bool b) := ⟨by simp [PyData.showable], by simp [PyData.canLay0], by rw [PyData.shown_bool]; cases b <;> decide +kernel, by simp [PyData.depth]⟩
theorem small_none : Small 6 0 .none := ⟨by simp [PyData.showable], by simp [PyData.canLay0], by rw [PyData.shown_none]; decide +kernel, by simp [PyData.depth]⟩
theorem small_all {L D : Nat} : ∀ {ds : List PyData}, (∀ d ∈ ds, Small L D d) → PyData.showableAll ds = true ∧ PyData.canLayAll0 ds = true ∧ ((PyData.shownAll ds).map (·.length)).sum ≤ L * ds.length ∧ PyData.depthAll ds ≤ D
  | [], _ => by simp [PyData.showableAll, PyData.canLayAll0, PyData.shownAll, PyData.depthAll]
  | d :: r, h => by
    obtain ⟨h1, h2, h3, h4⟩ := small_all fun x hx => h x (List.mem_cons_of_mem _ hx)
    have z := h d (by simp)
    simp only [PyData.showableAll, PyData.canLayAll0, PyData.shownAll, PyData.depthAll, Bool.and_eq_true, List.map_cons, List.sum_cons, List.length_cons]
    refine ⟨⟨z.sh, h1⟩, ⟨z.cl, h2⟩, ?_, Nat.max_le.mpr ⟨z.dp, h4⟩⟩
    have := z.sl
    rw [Nat.mul_add, Nat.mul_one]
    omega
theorem small_tup {L D : Nat} {ds : List PyData} (n : Nat) (hn : ds.length ≤ n) (h : ∀ d ∈ ds, Small L D d) : Small ((L + 2) * n + 3) (D + 1) (.tuple ds) := by
  obtain ⟨h1, h2, h3, h4⟩ := small_all h
  refine ⟨by simpa only [PyData.showable] using h1, by simpa only [PyData.canLay0] using h2, ?_, by simp only [PyData.depth]; omega⟩
  simp only [PyData.shown]
  refine Nat.le_trans (tupleText_len_le _) ?_
  rw [PyData.shownAll_length, Nat.add_mul]
  have := Nat.mul_le_mul_left L hn
  omega
theorem small_lst {L D : Nat} {ds : List PyData} (n : Nat) (hn : ds.length ≤ n) (h : ∀ d ∈ ds, Small L D d) : Small ((L + 2) * n + 3) (D + 1) (.list ds) := by
  obtain ⟨h1, h2, h3, h4⟩ := small_all h
  refine ⟨by simpa only [PyData.showable] using h1, by simpa only [PyData.canLay0] using h2, ?_, by simp only [PyData.depth]; omega⟩
  simp only [PyData.shown]
  refine Nat.le_trans (listText_len_le _) ?_
  rw [PyData.shownAll_length, Nat.add_mul]
  have := Nat.mul_le_mul_left L hn
  omega
theorem eqv_self {d : PyData} (h : Tells d) : PyData.eqv d d = true := SeqAt.eqv_refl d (SeqAt.canLay_of_shaped h.shaped)
/-! ### ==: words too -/
def rEqA (K : PySem.W.Frag) : R2 := fun x y H Q => rEqD K x y H Q ∨ rEq x y H Q
theorem qEqA {X : Cx} (K : PySem.W.Frag) (hu : X.A.units + 64 < cLine) (h : X.K = K := by rfl) : OpR X (compareOp .Eq) (rEqA K) := by subst h; exact .or (oEq hu) op_eq
inductive EqQ : Res → Res → (Res → Prop) → Prop
  | d {x y : Res} {k : Res → Prop} : EqP x y k → EqQ x y k
  | s {x y : Str} {k : Res → Prop} : k (.dat (.bool (decide (x = y)))) → EqQ (.dat (.str x)) (.dat (.str y)) k
theorem eqq_i {i j : Int} (g : k (.dat (.bool (decide (i = j))))) : EqQ (.dat (.int i)) (.dat (.int j)) k := .d (.int g)
theorem eqq_g {x y : Res} {d e : PyData} (h1 : x.data = some d) (h2 : y.data = some e) (h3 : SeqAt.shaped d = true) (h4 : SeqAt.shaped e = true) (g : k (.dat (.bool (PyData.eqv d e)))) : EqQ x y k := .d (.gen h1 h2 h3 h4 g)
theorem opEqA : OpOk K (rEqA K) EqQ := by
  intro B H H1 x y rx ry k Q e0 e1 ox oy p q
  cases p with
  | d p => exact .inl (opEq B H H1 x y rx ry k Q e0 e1 ox oy p q)
  | s g =>
    cases ox; cases oy
    refine .inr ⟨rfl, q _ _ _ (Same.refl _) rBl ?_⟩
    rw [dec_str]
    exact g
inductive ArgD : Res → PyData → Prop
  | dat {d : PyData} : ArgD (.dat d) d
  | bor {ds : List PyData} : ArgD (.bor ds) (.list ds)
def sp_alike : ASp := fun rs k => ∃ (x y : Res) (d : PyData), rs = [x, y] ∧ ArgD x d ∧ ArgD y d ∧ Tells d ∧ k (.dat (.bool true))
def sp_bag : ASp := fun rs k => ∃ ns : List Int, rs = [.bor (ns.map .int)] ∧ ns.length ≤ 63 ∧ k .bag
def sp_take : ASp := fun rs k => ∃ n : Int, rs = [.bag, .dat (.int n)] ∧ (0 < n ∧ n < 2 ^ 62) ∧ ∀ v : Int, 0 ≤ v → v < n → k (.dat (.int v))
def sp_some : ASp := fun rs k => ∃ (x : Res) (ds : List PyData), rs = [.bag, x] ∧ (x = .bor ds ∨ x = .dat (.tuple ds) ∨ x = .dat (.list ds)) ∧ (0 < ds.length ∧ ds.length < 1000000) ∧ ∀ (i : Nat) (d : PyData), ds[i]? = some d → k (.dat d)
end
end Dl

/-! own layer: gcd, isqrt, isinstance -/
namespace Dl
open PySem PySem.Spec L2 PyProof.Rows
section
variable {K : PySem.W.Frag} {δ : List Slot} {k : Res → Prop} {te : TE}
theorem GS.imp {g : TG} {x : Res} {k k' : List Slot → Prop} (h : GS K g x δ k) (hk : ∀ δ', k δ' → k' δ') : GS K g x δ k' :=
  fun B H H1 σ v R e o Q q => h B H H1 σ v R e o Q fun σ' H' δ' R' hw kd => q σ' H' δ' R' hw (hk δ' kd)
theorem SD.imp {t : TS} {nx nx' bk bk' ct ct' : List Slot → Prop} {rt rt' : Res → Prop} (h : SD K t ⟨nx, rt, bk, ct⟩ δ) (h1 : ∀ δ', nx δ' → nx' δ') (h2 : ∀ r, rt r → rt' r) (h3 : ∀ δ', bk δ' → bk' δ') (h4 : ∀ δ', ct δ' → ct' δ') : SD K t ⟨nx', rt', bk', ct'⟩ δ :=
  fun B H σ R E C => h B H σ R E ⟨fun σ' H' δ' R' hx => C.nx σ' H' δ' R' (h1 _ hx), fun v H' r e o hx => C.rt v H' r e o (h2 _ hx), fun σ' H' δ' R' hx => C.bk σ' H' δ' R' (h3 _ hx), fun σ' H' δ' R' hx => C.ct σ' H' δ' R' (h4 _ hx)⟩
inductive GcdP : List Res → (Res → Prop) → Prop
  | mk {i j : Int} {k : Res → Prop} : k (.dat (.int ((Nat.gcd i.natAbs j.natAbs : Nat) : Int))) → GcdP [.dat (.int i), .dat (.int j)] k
theorem cbGcd : CbOk K rGcd GcdP := by
  intro B H H1 vs rs k Q e0 e1 o p q
  cases p with
  | mk g =>
    cases o with
    | cons o1 o2 =>
      cases o2 with
      | cons o2 o3 =>
        cases o1; cases o2; cases o3
        exact ⟨_, _, rfl, q _ _ _ (Same.refl _) rInt g⟩
def bIsqrt : List V → Hp → VK → Prop := fun vs H Q => ∃ a : Int, vs = [.int a] ∧ 0 ≤ a ∧ a < 2 ^ 250 ∧ ∀ r : Int, 0 ≤ r → r * r ≤ a → a < (r + 1) * (r + 1) → Q (.int r) H
theorem cIsqrt {X : Cx} : CallR X (.builtin "math.isqrt") bIsqrt := by
  intro pins s σ H vs us Q I r h
  obtain ⟨a, rfl, h0, h1, q⟩ := h
  obtain ⟨u, rfl, r1⟩ := vals1 r
  obtain ⟨t, rfl⟩ := r1
  have hb : a.toNat < 2 ^ 250 := by
    rw [Int.toNat_lt h0]
    refine Int.lt_of_lt_of_le h1 ?_
    rw [Int.natCast_pow]
    exact Int.le_refl _
  have hl : a.toNat.log2 < 250 := Nat.lt_of_not_le fun hh => by
    by_cases hz : a.toNat = 0
    · rw [hz] at hh
      exact absurd hh (by decide)
    · exact absurd ((Nat.log2_lt hz).mpr hb) (by omega)
  obtain ⟨s1, s2⟩ := PySem.Float64.isqrt_spec a.toNat
  refine call_function_meets PySem.W.MGF.kind_isqrt PySem.W.MGF.plain_isqrt PySem.W.MGF.entry_isqrt (PySem.W.MGF.args_isqrt _) (PySem.W.mg_run_isqrt a t (by omega) (by omega) (by omega)).meets ⟨.int _, H, I.tok _, ⟨_, rfl⟩, q _ (Int.natCast_nonneg _) ?_ ?_⟩
  · have := Int.ofNat_le.mpr s1
    rw [Int.toNat_of_nonneg h0, Int.natCast_mul] at this
    exact this
  · have := Int.ofNat_lt.mpr s2
    rw [Int.toNat_of_nonneg h0, Int.natCast_mul] at this
    exact this
inductive IsqrtP : List Res → (Res → Prop) → Prop
  | mk {i : Int} {k : Res → Prop} : 0 ≤ i → i < 2 ^ 250 → (∀ r : Int, 0 ≤ r → r * r ≤ i → i < (r + 1) * (r + 1) → k (.dat (.int r))) → IsqrtP [.dat (.int i)] k
theorem cbIsqrt : CbOk K bIsqrt IsqrtP := by
  intro B H H1 vs rs k Q e0 e1 o p q
  cases p with
  | mk h0 h1 g =>
    cases o with
    | cons o1 o2 =>
      cases o1; cases o2
      exact ⟨_, rfl, h0, h1, fun r r0 r1 r2 => q _ _ _ (Same.refl _) rInt (g r r0 r1 r2)⟩
/-! ### isinstance -/
def tyN : PyData → String
  | .none => "NoneType"
  | .bool _ => "bool"
  | .int _ => "int"
  | .str _ => "str"
  | .list _ => "list"
  | .tuple _ => "tuple"
  | .dict _ => "dict"
theorem tyx_l {H : Hp} {p : Addr} {vs : List V} (h : SqL K H p vs) : TyX K H (.ref p) (.type "list") := by
  rcases h with (h | ⟨o, h⟩) | ⟨o, its, n, h1, h2, _⟩
  · exact .base (.lst h)
  · exact .base (.frz h)
  · exact .kList h1 h2
theorem tyx_t {H : Hp} {p : Addr} {vs : List V} (h : SqT K H p vs) : TyX K H (.ref p) (.type "tuple") := by
  rcases h with (h | ⟨o, h⟩) | ⟨o, its, n, h1, h2, _⟩
  · exact .base (.tup h)
  · exact .fTuple h
  · exact .kTuple h1 h2
theorem tyx {B H0 H : Hp} {v : V} {r : Res} {d : PyData} (e : Same B H) (o : ResOk K B H0 H v r) (h : r.data = some d) : TyX K H v (.type (tyN d)) := by
  cases r with
  | dat d' =>
    cases h
    cases o with
    | non => exact .base .non
    | bl b => exact .base (.bl b)
    | int i => exact .base (.int i)
    | str x => exact .base (.str x)
    | lst h _ => exact tyx_l h.seq
    | tup h _ => exact tyx_t h
  | bor ds =>
    cases h
    obtain ⟨p, vs, rfl, h1, _⟩ := o
    exact tyx_l (h1.seq e)
  | len ds =>
    cases h
    obtain ⟨p, vs, rfl, h1, _⟩ := o
    exact tyx_l (.of h1)
  | fresh ds =>
    cases h
    obtain ⟨p, vs, rfl, _, h1, _⟩ := o
    exact tyx_l (.of h1)
  | bag => cases h
theorem ec_isi {T : String} (h : EvC K te δ fun x => ∃ d b, x.data = some d ∧ kitB (tyN d) T = some b ∧ k (.dat (.bool b))) : EvC K (tCB (rIsi K) (tCons te (tCons (tC (.ty T)) tNil))) δ k := by
  intro B H σ R Q q
  refine h B H σ R _ fun v H1 x e o ⟨d, b, hx, hb, g⟩ => ?_
  exact ⟨v, _, _, _, b, rfl, .ty T, tyx (R.same.trans e) o hx, kit_ty hb, q _ _ _ e rBl g⟩
theorem qIsi {X : Cx} (K : PySem.W.Frag) (h : X.K = K := by rfl) : CallR X (.builtin "isinstance") (rIsi K) := by subst h; exact call_isi
/-! ### // by a divisor of either sign -/
def CDivZ (_ j : Int) : Prop := j ≠ 0 ∧ j.natAbs.log2 < 9000
def rFdvA : R2 := fun x y H Q => rFdv x y H Q ∨ rI CDivZ (fun i j => .int (i.fdiv j)) x y H Q
theorem qFdvA {X : Cx} : OpR X (binaryOp .FloorDiv) rFdvA := .or oFdv (L2.opI fun i j _ _ _ _ _ hc q => floordiv_int hc.1 q (.inl (PyProof.noPylong_of_log2 hc.2)))
inductive FdvQ : Res → Res → (Res → Prop) → Prop
  | p {x y : Res} {k : Res → Prop} : IntP CDivW (fun i j => .int (i / j)) x y k → FdvQ x y k
  | z {i j : Int} {k : Res → Prop} : CDivZ i j → k (.dat (.int (i.fdiv j))) → FdvQ (.dat (.int i)) (.dat (.int j)) k
theorem opFdvA : OpOk K rFdvA FdvQ := by
  intro B H H1 x y rx ry k Q e0 e1 ox oy p q
  cases p with
  | p p => exact .inl (opFdv B H H1 x y rx ry k Q e0 e1 ox oy p q)
  | z hc g =>
    cases ox; cases oy
    exact .inr ⟨_, _, rfl, rfl, hc, q _ _ _ (Same.refl _) rInt g⟩
theorem fdvq_p {i j : Int} (c : CDivW i j) (g : k (.dat (.int (i / j)))) : FdvQ (.dat (.int i)) (.dat (.int j)) k := .p (.mk c g)
theorem cdz {i j : Int} {b : Nat} (h : j ≠ 0) (hb : j.natAbs < 2 ^ b) (h0 : 0 < b) (h9 : b ≤ 9000) : CDivZ i j := ⟨h, Nat.lt_of_lt_of_le (PySem.Flt.log2_lt_of h0 hb) h9⟩
/-- a loop whose state is told by what was walked -/
theorem forp_fold {β α : Type} {g : TG} {tb : TS} {nx : List Slot → Prop} {rt : Res → Prop} (xs : List β) (enc : β → PyData) (st : List β → α) (δI : α → List Slot) (h0 : Wk δ (δI (st [])))
    (turn : ∀ (pre : List β) (x : β) (post : List β), xs = pre ++ x :: post → GS K g (.dat (enc x)) (δI (st pre)) fun δ' => SD K tb ⟨fun δ2 => Wk δ2 (δI (st (pre ++ [x]))), rt, nx, fun δ2 => Wk δ2 (δI (st (pre ++ [x])))⟩ δ')
    (fin : nx (δI (st xs))) : ForP K (xs.map enc) g tb nx rt δ := by
  refine ⟨α, fun i a => a = st (xs.take i), δI, ⟨_, rfl, h0⟩, fun i a d hd ha => ?_, fun a ha => ?_⟩
  · rw [List.getElem?_map] at hd
    cases hx : xs[i]? with
    | none => rw [hx] at hd; cases hd
    | some x =>
      rw [hx] at hd
      cases hd
      obtain ⟨hi, hxi⟩ := List.getElem?_eq_some_iff.mp hx
      have e1 : xs.take (i + 1) = xs.take i ++ [x] := by rw [List.take_add_one, hx]; rfl
      have e2 : xs = xs.take i ++ x :: xs.drop (i + 1) := by
        rw [← hxi, ← List.drop_eq_getElem_cons hi, List.take_append_drop]
      subst ha
      refine (turn _ x _ e2).imp fun δ' h => ?_
      refine h.imp (fun δ2 w => ⟨_, e1 ▸ rfl, w⟩) (fun _ r => r) (fun _ r => r) fun δ2 w => ⟨_, e1 ▸ rfl, w⟩
  · subst ha
    rw [List.length_map, List.take_length]
    exact fin
theorem abs_nat (n : Int) : (if n < 0 then -n else n) = (n.natAbs : Int) := by split <;> omega
theorem kit_ii : kitB "int" "int" = some true := by decide +kernel
theorem kit_ib : kitB "int" "bool" = some false := by decide +kernel
theorem some_l {ds : List PyData} (P : PyData → Prop) (h : ∀ d ∈ ds, P d) (h0 : 0 < ds.length ∧ ds.length < 1000000) (g : ∀ d, P d → k (.dat d)) : sp_some [.bag, .bor ds] k :=
  ⟨_, ds, rfl, .inl rfl, h0, fun i d hd => g d (h d (List.mem_of_getElem? hd))⟩
theorem some_t {ds : List PyData} (P : PyData → Prop) (h : ∀ d ∈ ds, P d) (h0 : 0 < ds.length ∧ ds.length < 1000000) (g : ∀ d, P d → k (.dat d)) : sp_some [.bag, .dat (.tuple ds)] k :=
  ⟨_, ds, rfl, .inr (.inl rfl), h0, fun i d hd => g d (h d (List.mem_of_getElem? hd))⟩
def sp_isint : ASp := fun rs k => ∃ x : Int, rs = [.dat (.int x)] ∧ k (.dat (.bool true))
end
end Dl

/-! own layer: tuple(zip(a, b)), list(zip(a, b)) of two lists -/
namespace Dl
open PySem PySem.Spec L2 PyProof.Rows
/-- a zip that has told i couples -/
def ZSt (h : Heap) (z TI TO i1 i2 l1 l2 S : Addr) (i : Nat) : Prop :=
  (∃ o, h.get? TO = some o) ∧ IsPair h TI (.ref i1) (.ref i2) ∧ h.IsListIter i1 l1 i ∧ h.IsListIter i2 l2 i ∧
    (PySem.IsZip h z TI TO .none ∧ IsPair h TO .none .none ∨ ∃ (T : Addr) (f : Bool) (oT : Obj), IsZipHeld h z TI TO T f ∧ h.get? T = some oT ∧ T ≠ z ∧ T ≠ i1 ∧ T ≠ i2 ∧ T ≠ S)
section
variable {prog : Program} {w : World} {A : Around} {E : Value → Shared → Prop} {s : Shared} {z TI TO i1 i2 l1 l2 S : Addr} {i : Nat} {xs ys : Array Value} {x y : Value} {Q : Option Value → Shared → Prop}
theorem ZSt.at {h h' : Heap} (st : ZSt h z TI TO i1 i2 l1 l2 S i) (h3 : S ≠ z ∧ S ≠ TO ∧ S ≠ i1 ∧ S ≠ i2) (h4 : S ≠ TI) (k : ∀ c o, c ≠ S → h.get? c = some o → h'.get? c = some o) : ZSt h' z TI TO i1 i2 l1 l2 S i := by
  obtain ⟨⟨ob, a0⟩, a, b, c, d⟩ := st
  obtain ⟨n1, n2, n3, n4⟩ := h3
  refine ⟨⟨ob, k _ _ (Ne.symm n2) a0⟩, k _ _ (Ne.symm h4) a, b.at fun o q => k _ o (Ne.symm n3) q, c.at fun o q => k _ o (Ne.symm n4) q, ?_⟩
  rcases d with ⟨d1, d2⟩ | ⟨T, f, oT, d1, d2, d3⟩
  · exact .inl ⟨k _ _ (Ne.symm n1) d1, k _ _ (Ne.symm n2) d2⟩
  · exact .inr ⟨T, f, oT, k _ _ (Ne.symm n1) d1, k _ _ d3.2.2.2 d2, d3⟩
theorem z_item (hSl : s.heap.objs.size ≠ S) (D : ZipApart z TI TO i1 i2 l1 l2) (st : ZSt s.heap z TI TO i1 i2 l1 l2 S i) (hl1 : s.heap.IsList l1 xs) (hl2 : s.heap.IsList l2 ys) (hx : xs[i]? = some x) (hy : ys[i]? = some y)
    (hQ : ∀ h', ZSt h' z TI TO i1 i2 l1 l2 S (i + 1) → IsPair h' s.heap.objs.size x y → (∀ c o, c ≠ z → c ≠ TO → c ≠ i1 → c ≠ i2 → s.heap.get? c = some o → h'.get? c = some o) → Q (some (.ref s.heap.objs.size)) { s with heap := h' }) :
    wpAny (model prog w) A (pyNext (.ref z)) Q E s := by
  obtain ⟨⟨oO, hO⟩, hTI, h1, h2, d⟩ := st
  have lt : ∀ {c : Addr} {o : Obj}, s.heap.get? c = some o → s.heap.objs.size ≠ c := fun e => Nat.ne_of_gt (Heap.lt_size e)
  have q1 : s.heap.objs.size ≠ i1 := by obtain ⟨o, e, _⟩ := h1; exact lt e
  have q2 : s.heap.objs.size ≠ i2 := by obtain ⟨o, e, _⟩ := h2; exact lt e
  rcases d with ⟨d1, d2⟩ | ⟨T, f, oT, d1, d2, d3, d4, d5, d6⟩
  · refine wpAny_pyNext_zip_item D d1 hTI d2 h1 h2 hl1 hl2 hx hy fun h' a1 a2 a3 a4 a5 a6 a7 => hQ h' ⟨⟨_, a2⟩, a7 _ _ D.TIz D.TITO D.TIi1 D.TIi2 hTI, a3, a4, .inr ⟨_, false, _, a1, a5, lt d1, q1, q2, hSl⟩⟩ a5 a7
  · have q0 : s.heap.objs.size ≠ z := lt d1
    refine wpAny_pyNext_zip_item_held D d1 d2 hTI h1 h2 hl1 hl2 hx hy fun h' a1 a3 a4 a5 a6 a7 => hQ h' ⟨⟨_, a7 _ _ D.TOz D.TOi1 D.TOi2 hO⟩, a7 _ _ D.TIz D.TIi1 D.TIi2 hTI, a3, a4, .inr ⟨T, true, oT, a1, a7 _ _ d3 d4 d5 d2, d3, d4, d5, d6⟩⟩ a5 fun c o c1 _ c3 c4 e => a7 c o c1 c3 c4 e
theorem z_end (hh : A.handled = none) (D : ZipApart z TI TO i1 i2 l1 l2) (st : ZSt s.heap z TI TO i1 i2 l1 l2 S i) (hl1 : s.heap.IsList l1 xs) (hl2 : s.heap.IsList l2 ys) (hend : xs[i]? = none ∨ ys[i]? = none)
    (hQ : ∀ h', (∀ c o, c ≠ z → c ≠ TO → c ≠ i1 → c ≠ i2 → s.heap.get? c = some o → h'.get? c = some o) → Q none { s with heap := h' }) :
    wpAny (model prog w) A (pyNext (.ref z)) Q E s := by
  obtain ⟨⟨oO, hO⟩, hTI, h1, h2, d⟩ := st
  rcases d with ⟨d1, d2⟩ | ⟨T, f, oT, d1, d2, d3, d4, d5, d6⟩
  · exact wpAny_pyNext_zip_end hh D d1 hTI d2 h1 h2 hl1 hl2 hend hQ
  · exact wpAny_pyNext_zip_end_held hh D d1 d2 hTI h1 h2 hl1 hl2 hend fun h' k => hQ h' fun c o c1 _ c3 c4 e => k c o c1 c3 c4 e
end
/-- the couples told so far, as they lie -/
def ZImg (H : Hp) (xs ys : List V) (vs : List V) (i : Nat) : Prop := vs.length = i ∧ ∀ (j : Nat) (v : V), vs[j]? = some v → ∃ (T : Addr) (x y : V), v = .ref T ∧ xs[j]? = some x ∧ ys[j]? = some y ∧ H T = some (.tup [x, y])
def lstObj (acc : Array Value) (c : Nat) : Obj := { cls := .type "list", dict := none, data := .seq acc c, slots := #[] }
theorem zip_loop {X : Cx} {A : Around} (hh : A.handled = none) {R : Result → Shared → Prop} {pins : List (Addr × Obj)} {σ : L2.St} {z TI TO i1 i2 l1 l2 S : Addr} {res : Value} (D : ZipApart z TI TO i1 i2 l1 l2) (hS : S ≠ z ∧ S ≠ TO ∧ S ≠ i1 ∧ S ≠ i2)
    {xs ys : List V} {n : Nat} (hn : n = min xs.length ys.length) (hz : n ≤ 1000000) :
    ∀ (k i : Nat) (s : Shared) (H : Hp) (acc : Array Value) (c : Nat) (vs : List V), n - i = k → i ≤ n → Inv X pins σ H s → (∀ d ∈ [z, TO, i1, i2, S], FpOk X pins H d) → SqL X.K H l1 xs → SqL X.K H l2 ys →
      ZSt s.heap z TI TO i1 i2 l1 l2 S i → s.heap.get? S = some (lstObj acc c) → S ≠ TI → Vals vs acc.toList → ZImg H xs ys vs i →
      (∀ s' H' acc' c' vs', Inv X pins σ H' s' → Same H H' → s'.heap.get? S = some (lstObj acc' c') → Vals vs' acc'.toList → ZImg H' xs ys vs' n → R (.ok (.ret res)) s') →
      codeAny (model X.prog X.w) A (.builtin "list.extend.loop" ⟨[.ref S, .ref z, res], []⟩) R s := by
  intro k
  induction k with
  | zero =>
    intro i s H acc c vs hk hi I hf q1 q2 st hSo hSt rv im hR
    have hin : i = n := by omega
    subst hin
    obtain ⟨t1, r1, p1, _⟩ := I.list q1
    obtain ⟨t2, r2, p2, _⟩ := I.list q2
    refine codeAny_builtin F.entry_extend_loop ?_
    rw [Around.under_plainId F.plain_extend_loop _]
    show wpAny _ A.in1 (pyNext (.ref z) >>= _) _ _ s
    refine wpAny_bind (z_end (A := A.in1) hh D st p1.isList p2.isList ?_ fun h' hk => ?_)
    · have e1 := r1.length
      have e2 := r2.length
      rw [List.getElem?_toArray, List.getElem?_toArray]
      by_cases hx : xs.length ≤ i
      · exact .inl (List.getElem?_eq_none (by omega))
      · exact .inr (List.getElem?_eq_none (by omega))
    · exact wpAny_pure (hR _ H acc c vs (I.turnedL (t' := s.toks) (ch := [z, TO, i1, i2, S]) (fun b o hb e => by
        simp only [List.mem_cons, List.not_mem_nil, or_false, not_or] at hb
        exact hk b o hb.1 hb.2.1 hb.2.2.1 hb.2.2.2.1 e) hf) (Same.refl H) (hk S _ hS.1 hS.2.1 hS.2.2.1 hS.2.2.2 hSo) rv im)
  | succ k ih =>
    intro i s H acc c vs hk hi I hf q1 q2 st hSo hSt rv im hR
    have hlt : i < n := by omega
    obtain ⟨t1, r1, p1, _⟩ := I.list q1
    obtain ⟨t2, r2, p2, _⟩ := I.list q2
    have e1 := r1.length
    have e2 := r2.length
    have hx : xs[i]? = some xs[i] := List.getElem?_eq_getElem (by omega)
    have hy : ys[i]? = some ys[i] := List.getElem?_eq_getElem (by omega)
    obtain ⟨u, hu, ru⟩ := r1.get hx
    obtain ⟨v, hv, rvv⟩ := r2.get hy
    refine codeAny_builtin F.entry_extend_loop ?_
    rw [Around.under_plainId F.plain_extend_loop _]
    show wpAny _ A.in1 (pyNext (.ref z) >>= _) _ _ s
    refine wpAny_bind (z_item (Nat.ne_of_gt (Heap.lt_size hSo)) D st p1.isList p2.isList (x := u) (y := v) (by rw [List.getElem?_toArray]; exact hu) (by rw [List.getElem?_toArray]; exact hv) fun h' st' hp hkk => ?_)
    have hSlt : s.heap.objs.size ≠ S := Nat.ne_of_gt (Heap.lt_size hSo)
    have hS' := hkk S _ hS.1 hS.2.1 hS.2.2.1 hS.2.2.2 hSo
    have new : ObjOk X.prog X.w (upd H s.heap.objs.size (.tup [xs[i], ys[i]])) h' s.heap.objs.size (.tup [xs[i], ys[i]]) :=
      ⟨(by decide : 2 ≤ sizeLine), [u, v], .cons ru (.cons rvv .nil), ⟨_, hp, rfl, _, rfl⟩⟩
    have I1 : Inv X pins σ (upd H s.heap.objs.size (.tup [xs[i], ys[i]])) { s with heap := h' } :=
      I.turnedNew (t' := s.toks) (ch := [z, TO, i1, i2, S]) (fun b o hb e => by
        simp only [List.mem_cons, List.not_mem_nil, or_false, not_or] at hb
        exact hkk b o hb.1 hb.2.1 hb.2.2.1 hb.2.2.2.1 e) hf (Nat.le_refl _) new
    have hnew : H s.heap.objs.size = none := I.hok.fresh (Nat.le_refl _)
    have sm : Same H (upd H s.heap.objs.size (.tup [xs[i], ys[i]])) := same_new hnew
    have hf' : ∀ d ∈ [z, TO, i1, i2, S], FpOk X pins (upd H s.heap.objs.size (.tup [xs[i], ys[i]])) d := fun d hd => by
      obtain ⟨a, b⟩ := hf d hd
      refine ⟨?_, b⟩
      rw [upd_ne ?_]
      · exact a
      · simp only [List.mem_cons, List.not_mem_nil, or_false] at hd
        obtain ⟨⟨_, y0⟩, _, y1, y2, y3⟩ := st
        rcases hd with rfl | rfl | rfl | rfl | rfl
        · rcases y3 with ⟨y3, _⟩ | ⟨_, _, _, y3, _⟩ <;> exact Nat.ne_of_lt (Heap.lt_size y3)
        · exact Nat.ne_of_lt (Heap.lt_size y0)
        · obtain ⟨o, e, _⟩ := y1
          exact Nat.ne_of_lt (Heap.lt_size e)
        · obtain ⟨o, e, _⟩ := y2
          exact Nat.ne_of_lt (Heap.lt_size e)
        · exact Nat.ne_of_lt (Heap.lt_size hSo)
    have hacc : acc.size = i := by
      have := rv.length
      rw [im.1] at this
      simpa using this.symm
    show wpAny _ A.in1 (updateSeq S (·.push _) >>= _) _ _ _
    refine wpAny_bind ?_
    refine wpAny_updateSeq hS' rfl (wpAny_pure ⟨plainId_quiet F.plain_extend_loop _, ih (i + 1) _ (upd H s.heap.objs.size (.tup [xs[i], ys[i]])) (acc.push (.ref s.heap.objs.size)) _ (vs ++ [.ref s.heap.objs.size]) (by omega) hlt ?_ hf' (sql_same sm q1) (sql_same sm q2) ?_ (Heap.get?_update_self _ hS' rfl) hSt ?_ ?_ ?_⟩)
      (by rw [hacc]; omega) (by show (acc.push _).size ≤ sizeLine + 1; rw [Array.size_push, hacc]; have : sizeLine = 16777216 := by decide
                                omega)
    · exact I1.turnedL (t' := s.toks) (ch := [S]) (fun b o hb e => (Heap.get?_update_other _ _ (fun h : S = b => hb (by rw [h]; exact List.mem_singleton_self _))).trans e) fun b hb => hf' b (by rw [List.mem_singleton.mp hb]; simp)
    · exact st'.at hS hSt fun c o hc e => (Heap.get?_update_other _ _ (Ne.symm hc)).trans e
    · rw [Array.toList_push]
      exact rv.append (.cons rfl .nil)
    · refine ⟨by rw [List.length_append, im.1]; rfl, fun j v hj => ?_⟩
      by_cases hji : j < vs.length
      · rw [List.getElem?_append_left hji] at hj
        obtain ⟨T, a, b, t1, t2, t3, t4⟩ := im.2 j v hj
        exact ⟨T, a, b, t1, t2, t3, sm _ _ t4⟩
      · rw [List.getElem?_append_right (by omega)] at hj
        have h1 := (List.getElem?_eq_some_iff.mp hj).1
        simp at h1
        have hj0 : j = vs.length := by omega
        subst hj0
        simp at hj
        have e := im.1
        subst hj
        refine ⟨_, xs[i], ys[i], rfl, by rw [e]; exact hx, by rw [e]; exact hy, upd_same⟩
    · intro s' H' acc' c' vs' I' sm' a b d
      exact hR s' H' acc' c' vs' I' (sm.trans sm') a b d
namespace Fz
theorem zip_no_len : typeLookup (.type "zip") "__len__" = pure none := by rw [typeLookup_type, builtinLookup_eq_fast]; kernel_rfl
theorem zip_no_hint : typeLookup (.type "zip") "__length_hint__" = pure none := by rw [typeLookup_type, builtinLookup_eq_fast]; kernel_rfl
end Fz
theorem collect_zip {X : Cx} {A : Around} {E : Value → Shared → Prop} {Q : List Value → Shared → Prop} {pins : List (Addr × Obj)} {σ : L2.St} {H : Hp} {s : Shared} {z TI TO i1 i2 l1 l2 : Addr} {xs ys : List V} {n : Nat} (hh : A.handled = none)
    (D : ZipApart z TI TO i1 i2 l1 l2) (hn : n = min xs.length ys.length) (hz : n ≤ 1000000) (I : Inv X pins σ H s) (hf : ∀ d ∈ [z, TO, i1, i2], FpOk X pins H d) (q1 : SqL X.K H l1 xs) (q2 : SqL X.K H l2 ys)
    (hZ : PySem.IsZip s.heap z TI TO .none) (hTI : IsPair s.heap TI (.ref i1) (.ref i2)) (hTO : IsPair s.heap TO .none .none) (h1 : s.heap.IsListIter i1 l1 0) (h2 : s.heap.IsListIter i2 l2 0)
    (hQ : ∀ s' H' (acc : Array Value) vs', Inv X pins σ H' s' → Same H H' → Vals vs' acc.toList → ZImg H' xs ys vs' n → Q acc.toList s') : wpAny (model X.prog X.w) A (collect (.ref z)) Q E s := by
  unfold collect
  refine wpAny_bind (wpAny_runValue (codeAny_builtin F.entry_proto_collect ?_))
  rw [Around.under_plainId F.plain_proto_collect _]
  show wpAny _ A.in1 (newList [] >>= fun l => again (.builtin "list.__iadd__" ⟨[l, .ref z], []⟩)) _ _ s
  refine wpAny_bind (wpAny_newObj_type ?_)
  refine wpAny_pure ⟨plainId_quiet F.plain_list_iadd _, codeAny_builtin F.entry_list_iadd ?_⟩
  rw [Around.under_plainId F.plain_list_iadd _]
  show wpAny _ A.in1 (Builtin.List.listExtendWith (.ref s.heap.objs.size) (.ref z) (.ref s.heap.objs.size)) _ _ _
  unfold Builtin.List.listExtendWith
  have up : ∀ c o, s.heap.get? c = some o → (s.heap.push { cls := .type "list", data := .seq ([] : List Value).toArray }).get? c = some o := fun c o e => Heap.get?_push_of_some _ e
  have hT : Shared.TypeIs { s with heap := s.heap.push { cls := .type "list", data := .seq ([] : List Value).toArray } } (.ref z) "zip" := ⟨_, up _ _ hZ, rfl⟩
  have lt : ∀ {c : Addr} {o : Obj}, s.heap.get? c = some o → s.heap.objs.size ≠ c := fun e => Nat.ne_of_gt (Heap.lt_size e)
  have n1 : s.heap.objs.size ≠ i1 := by obtain ⟨o, e, _⟩ := h1; exact lt e
  have n2 : s.heap.objs.size ≠ i2 := by obtain ⟨o, e, _⟩ := h2; exact lt e
  have n0 : s.heap.objs.size ≠ z := lt hZ
  refine wpAny_bind (wpAny_typeOf hT ?_)
  have g1 : Builtin.List.listSameRef (.ref s.heap.objs.size) (.ref z) = false := by simp [Builtin.List.listSameRef, n0]
  have g2 : (Value.type "zip" == Value.type "list") = false := by decide
  have g3 : (Value.type "zip" == Value.type "tuple") = false := by decide
  simp only [g1, g2, g3, Bool.or_false, Bool.false_eq_true, if_false]
  refine wpAny_bind (wpAny_pyIter_zip (up _ _ hZ) ?_)
  refine wpAny_bind (wpAny_holding ?_)
  unfold Builtin.List.listLengthHint
  refine wpAny_bind (wpAny_specialOf hT Fz.zip_no_len ?_)
  show wpAny _ A.in1 (specialOf (Value.ref z) (Str.ofString "__length_hint__") >>= _) _ _ _
  refine wpAny_bind (wpAny_specialOf hT Fz.zip_no_hint ?_)
  refine wpAny_pure ?_
  show wpAny _ A.in1 (rule "list.extend.makes-room" >>= fun _ => Builtin.List.listTouch (.ref s.heap.objs.size) >>= fun _ =>
    again (.builtin "list.extend.loop" ⟨[.ref s.heap.objs.size, .ref z, .ref s.heap.objs.size], []⟩)) _ _ _
  refine wpAny_bind (wpAny_rule ?_)
  have hS₁ : (s.heap.push { cls := .type "list", data := .seq ([] : List Value).toArray }).get? s.heap.objs.size = some { cls := .type "list", data := .seq ([] : List Value).toArray } := Heap.get?_push_size _ rfl
  refine wpAny_bind ?_
  show wpAny _ A.in1 (updateSeq s.heap.objs.size (·.push .none) >>= fun _ => updateSeq s.heap.objs.size (·.pop)) _ _ _
  refine wpAny_bind (wpAny_updateSeq hS₁ rfl ?_)
  have hS₂ := Heap.get?_update_self (Obj.mapSeq (·.push Value.none)) hS₁ rfl
  refine wpAny_updateSeq hS₂ rfl ?_
  have hS₃ := Heap.get?_update_self (Obj.mapSeq (·.pop)) hS₂ rfl
  have oth : ∀ b o, s.heap.get? b = some o → (((s.heap.push { cls := .type "list", data := .seq ([] : List Value).toArray }).update s.heap.objs.size (Obj.mapSeq (·.push Value.none))).update s.heap.objs.size (Obj.mapSeq (·.pop))).get? b = some o :=
    fun b o e => (Heap.get?_update_other _ _ (lt e)).trans ((Heap.get?_update_other _ _ (lt e)).trans (up b o e))
  have I1 := I.kept (t' := s.toks) oth
  have hf1 : ∀ d ∈ [z, TO, i1, i2, s.heap.objs.size], FpOk X pins H d := fun d hd => by
    simp only [List.mem_cons, List.not_mem_nil, or_false] at hd
    rcases hd with rfl | rfl | rfl | rfl | rfl
    · exact hf _ (by simp)
    · exact hf _ (by simp)
    · exact hf _ (by simp)
    · exact hf _ (by simp)
    · exact I.fpOk (Nat.le_refl _) (I.hok.fresh (Nat.le_refl _))
  refine wpAny_pure ⟨plainId_quiet F.plain_extend_loop _, zip_loop (xs := xs) (ys := ys) (n := n) hh D ⟨n0, lt hTO, n1, n2⟩ hn hz n 0 _ H _ _ [] rfl (Nat.zero_le _) I1 hf1 q1 q2
    ⟨⟨_, oth _ _ hTO⟩, oth _ _ hTI, h1.at fun o e => oth _ o e, h2.at fun o e => oth _ o e, .inl ⟨oth _ _ hZ, oth _ _ hTO⟩⟩ hS₃ (lt hTI) .nil ⟨rfl, fun j v e => by simp at e⟩ fun s' H' acc' c' vs' I' sm hS' rv im => ?_⟩
  show wpAny _ A (load s.heap.objs.size >>= _) _ _ s'
  refine wpAny_bind (wpAny_load hS' ?_)
  exact wpAny_pure (hQ s' H' acc' vs' I' sm rv im)
theorem code_tuple_zip {X : Cx} {A : Around} {E : Value → Shared → Prop} {Q₁ : Value → Shared → Prop} {pins : List (Addr × Obj)} {σ : L2.St} {H : Hp} {s : Shared} {z TI TO i1 i2 l1 l2 : Addr} {xs ys : List V} {n : Nat} (hh : A.handled = none)
    (D : ZipApart z TI TO i1 i2 l1 l2) (hn : n = min xs.length ys.length) (hz : n ≤ 1000000) (I : Inv X pins σ H s) (hf : ∀ d ∈ [z, TO, i1, i2], FpOk X pins H d) (q1 : SqL X.K H l1 xs) (q2 : SqL X.K H l2 ys)
    (hZ : PySem.IsZip s.heap z TI TO .none) (hTI : IsPair s.heap TI (.ref i1) (.ref i2)) (hTO : IsPair s.heap TO .none .none) (h1 : s.heap.IsListIter i1 l1 0) (h2 : s.heap.IsListIter i2 l2 0)
    (h : ∀ s' H' (acc : Array Value) vs', Inv X pins σ H' s' → Same H H' → Vals vs' acc.toList → ZImg H' xs ys vs' n → Q₁ (.ref s'.heap.objs.size) { s' with heap := s'.heap.push { cls := .type "tuple", data := .seq acc } }) :
    codeAny (model X.prog X.w) A (.call (.builtin "tuple.__new__") ⟨[.type "tuple", .ref z], []⟩) (wants Q₁ E) s := by
  refine codeAny_of_tree ?_
  show wpAny _ A.in1 (do checkBuiltinCall "tuple.__new__" ⟨[.type "tuple", .ref z], []⟩; again (.builtin "tuple.__new__" ⟨[.type "tuple", .ref z], []⟩)) _ _ s
  refine wpAny_bind (wpAny_of_eq (F.newCall_tuple_1 _) (wpAny_pure ⟨plainId_quiet F.plain_tuple_new _, codeAny_builtin F.entry_tuple_new ?_⟩))
  rw [Around.under_plainId F.plain_tuple_new _]
  have hsub := sub_tuple_self
  have hinit := init_tuple_lookup
  have hmh := madeHere_tuple
  have hty : s.TypeIs (.ref z) "zip" := ⟨_, hZ, rfl⟩
  have hh1 : A.in1.handled = none := hh
  wp_walk using wpAny_typeOf hty, collect_zip (A := A.in1) hh1 D hn hz I hf q1 q2 hZ hTI hTO h1 h2
  intro s' H' acc vs' I' sm rv im
  show wpAny _ _ (Builtin.Tuple.tupleExact acc.toList.toArray >>= fun v => ret v) _ _ _
  unfold Builtin.Tuple.tupleExact
  have e : acc.toList.toArray = acc := by simp
  rw [e]
  have hsz : acc.size = n := by
    have := rv.length
    rw [im.1] at this
    simpa using this.symm
  refine wpAny_bind (wpAny_newObj_type ?_ (by show acc.size ≤ sizeLine; rw [hsz]; exact Nat.le_trans hz (by decide)))
  refine wpAny_pure ?_
  exact h s' H' acc vs' I' sm rv im
def tTupZip (K : PySem.W.Frag) (ta : TA) : TE := fun σ H Q => ta σ H fun vs H1 => ∃ a b xs ys, vs = [.ref a, .ref b] ∧ SqL K H1 a xs ∧ SqL K H1 b ys ∧ min xs.length ys.length ≤ 1000000 ∧
  ∀ vs' H2 q, Same H1 H2 → ZImg H2 xs ys vs' (min xs.length ys.length) → H2 q = none → Q (.ref q) (upd H2 q (.tup vs'))
theorem pe_tupZip {X : Cx} {e e2 : Expr} {ta : TA} {p p' pos pos' : Pos} (hmt : X.mg "tuple" = none) (hmz : X.mg "zip" = none) (ha : PA X [e, e2] ta) (hc : X.calm = true := by rfl) (hgt : Gl X "tuple" := by rfl) (hgz : Gl X "zip" := by rfl)
    (hs : starEach [e, e2] X.env = (false, eval e X.env) :: starEach [e2] X.env := by rfl) (hpl : (backTo pos' (starEach [e2] X.env)).any (·.1) = false := by rfl)
    (na : starEach [.Call (.Name "zip" p') [e, e2] [] pos'] X.env = (false, eval (.Call (.Name "zip" p') [e, e2] [] pos') X.env) :: starEach [] X.env := by rfl) :
    PE X (.Call (.Name "tuple" p) [.Call (.Name "zip" p') [e, e2] [] pos'] [] pos) (tTupZip X.K ta) := by
  refine ⟨fun pins s σ H Q I h => ?_⟩
  refine Call_ (ld_blt I hgt hmt boot_tuple (PyProof.Rows.callWith_type1 (args_cons ?_ na) na))
  refine Call_ (ld_blt I hgz hmz PyProof.Rows.boot_zip (PyProof.Rows.callWith_type1 (thn (ha.run pos' pins s σ H _ I h) fun us s1 ⟨vs, H1, I1, r1, q1⟩ => ?_) hs hpl))
  obtain ⟨a, b, xs, ys, ex, hqx, hqy, hz, q⟩ := q1
  subst ex
  cases r1 with
  | cons r rr =>
    cases rr with
    | cons r' rr =>
      cases rr
      cases r
      cases r'
      obtain ⟨its, rv, p1, _⟩ := I1.list hqx
      obtain ⟨its2, rv2, p2, _⟩ := I1.list hqy
      have la : a < s1.heap.objs.size := p1.lt
      have lb : b < s1.heap.objs.size := p2.lt
      refine call_zip_2 p1.isList p2.isList fun h' hz' hTI hTO h1 h2 hsz hk => args_nil ?_
      have I2 : Inv X pins σ H1 { s1 with heap := h' } := I1.kept (t' := s1.toks) hk
      have D := PySem.W.ktu_apart s1.heap.objs.size a b la lb
      have hf : ∀ d ∈ [s1.heap.objs.size + 4, s1.heap.objs.size + 3, s1.heap.objs.size, s1.heap.objs.size + 1], FpOk X pins H1 d := fun d hd => by
        have hle : s1.heap.objs.size ≤ d := by
          simp only [List.mem_cons, List.not_mem_nil, or_false] at hd
          rcases hd with z | z | z | z
          · rw [z]; exact Nat.le_add_right _ _
          · rw [z]; exact Nat.le_add_right _ _
          · rw [z]; exact Nat.le_refl _
          · rw [z]; exact Nat.le_add_right _ _
        exact I1.fpOk hle (I1.hok.fresh hle)
      refine callType_codes (Q₁ := fun obj s₂ => s₂.TypeIs obj "tuple" ∧ EP X pins σ Q obj s₂) F.called_tuple (F.typeCall_tuple_1 _) F.entry_object_init
        (code_tuple_zip (A := X.A.in1) (I.ok.hd hc) D rfl hz I2 hf hqx hqy hz' hTI hTO h1 h2 fun s' H' acc vs' I' sm rv im => ⟨⟨_, Heap.get?_push_size _ rfl, rfl⟩, ?_⟩) fun obj s₁ h₁ => ?_
      · have hl : vs'.length ≤ sizeLine := by rw [im.1]; exact Nat.le_trans hz (by decide)
        have new : ObjOk X.prog X.w (upd H' s'.heap.objs.size (.tup vs')) (s'.heap.push { cls := .type "tuple", data := .seq acc }) s'.heap.objs.size (.tup vs') :=
          ⟨hl, acc.toList, rv, by
            have e : acc.toList.toArray = acc := by simp
            have := IsTup.new s'.heap acc.toList.toArray
            rw [e] at this
            exact this⟩
        exact ⟨.ref s'.heap.objs.size, _, I'.laid (t' := s'.toks) (fun b o e => Heap.get?_push_of_some _ e) (Nat.le_refl _) new, rfl, q vs' H' _ sm im (I'.hok.fresh (Nat.le_refl _))⟩
      · exact ⟨h₁.1, F.args_object_init_2 obj _, object_init_meets F.called_tuple.init.lookup F.called_tuple.made (by decide) X.prog X.w X.A.in1 _ s₁ ⟨h₁.1, rfl, h₁.2⟩⟩
end Dl

/-! own layer: enumerate and zip over abstract slots -/
namespace Dl
open PySem PySem.Spec L2 PyProof.Rows RZ
section
variable {K : PySem.W.Frag} {δ : List Slot} {te : TE} {ta : TA}
def enumD (ds : List PyData) : List PyData := (List.range ds.length).map fun i => .tuple [.int (i : Nat), ds.getD i .none]
def zipD (ds es : List PyData) : List PyData := (List.range (min ds.length es.length)).map fun i => .tuple [ds.getD i .none, es.getD i .none]
theorem enumD_len {ds : List PyData} : (enumD ds).length = ds.length := by unfold enumD; rw [List.length_map, List.length_range]
theorem zipD_len {ds es : List PyData} : (zipD ds es).length = min ds.length es.length := by unfold zipD; rw [List.length_map, List.length_range]
theorem getD_of {ds : List PyData} {i : Nat} {d : PyData} (h : ds[i]? = some d) : ds.getD i .none = d := by rw [List.getD_eq_getElem?_getD, h]; rfl
theorem enumD_get {ds : List PyData} {i : Nat} {d : PyData} (h : ds[i]? = some d) : (enumD ds)[i]? = some (.tuple [.int (i : Nat), d]) := by
  unfold enumD
  rw [List.getElem?_map, List.getElem?_range (List.getElem?_eq_some_iff.mp h).1]
  simp only [Option.map_some, getD_of h]
theorem zipD_get {ds es : List PyData} {i : Nat} {d e : PyData} (h : ds[i]? = some d) (h' : es[i]? = some e) : (zipD ds es)[i]? = some (.tuple [d, e]) := by
  unfold zipD
  have h1 := (List.getElem?_eq_some_iff.mp h).1
  have h2 := (List.getElem?_eq_some_iff.mp h').1
  rw [List.getElem?_map, List.getElem?_range (by omega)]
  simp only [Option.map_some, getD_of h, getD_of h']
theorem sq_same {b : Bool} {H H' : Hp} {a : Addr} {xs : List V} (e : Same H H') (h : Sq K b H a xs) : Sq K b H' a xs := by
  cases b
  · exact sqt_per (per_same e) (show SqT K H a xs from h)
  · exact sql_same e (show SqL K H a xs from h)
theorem walk_eA {G0 : Hp} {b : Bool} {a : Addr} {xs : List V} {ds : List PyData} (h : Sq K b G0 a xs) (im : ImAll K G0 xs ds) : WalkOk K G0 (IteA K b a) (enumD ds) := by
  refine ⟨YPair (fun i => some (.int (i : Nat))) (fun i => xs[i]?), ?_, fun i H x H' hi e y => ?_⟩
  · rw [enumD_len, ← im.length]
    refine ⟨fun i H hi q => ⟨xs, xs[i], sq_same q h, by simp [hi]⟩, fun H q => ⟨xs, sq_same q h, Nat.le_refl _⟩, fun i H v H' _ q y => ?_⟩
    obtain ⟨T, x, h1, h2, h3, h4⟩ := y
    exact ⟨T, .int (i : Nat), x, h1, h2, h3, rfl, h4 xs (sq_same q h)⟩
  · obtain ⟨T, x1, y1, rfl, hT, rfl, e1, e2⟩ := y
    cases e1
    obtain ⟨d, h1, h2⟩ := im.getV e2
    have sm : Same H (upd H T (.tup [.int (i : Nat), y1])) := same_new hT
    exact ⟨sm, _, enumD_get h1, .tup (SqT.of upd_same) (.cons (.int _) (.cons (h2.to (per_same (e.trans sm))) .nil))⟩
theorem walk_zL {G0 : Hp} {a b : Addr} {xs ys : List V} {ds es : List PyData} (h : SqL K G0 a xs) (h' : SqL K G0 b ys) (im : ImAll K G0 xs ds) (im' : ImAll K G0 ys es) : WalkOk K G0 (Itz K a b) (zipD ds es) := by
  refine ⟨YPair (fun i => xs[i]?) (fun i => ys[i]?), ?_, fun i H x H' hi e y => ?_⟩
  · rw [zipD_len, ← im.length, ← im'.length]
    exact (walk_zip (K := K) (a := a) (b := b) (xs := xs) (ys := ys) rfl).mono (G' := fun H => Same G0 H) (fun H q => ⟨sql_same q h, sql_same q h'⟩) fun i H x H' _ _ y => y
  · obtain ⟨T, x1, y1, rfl, hT, rfl, e1, e2⟩ := y
    obtain ⟨d, h1, h2⟩ := im.getV e1
    obtain ⟨d', h3, h4⟩ := im'.getV e2
    have sm : Same H (upd H T (.tup [x1, y1])) := same_new hT
    exact ⟨sm, _, zipD_get h1 h3, .tup (SqT.of upd_same) (.cons (h2.to (per_same (e.trans sm))) (.cons (h4.to (per_same (e.trans sm))) .nil))⟩
theorem walk_zT {G0 : Hp} {a b : Addr} {xs ys : List V} {ds es : List PyData} (h : SqT K G0 a xs) (h' : SqT K G0 b ys) (im : ImAll K G0 xs ds) (im' : ImAll K G0 ys es) : WalkOk K G0 (ItzT K a b) (zipD ds es) := by
  refine ⟨YPair (fun i => xs[i]?) (fun i => ys[i]?), ?_, fun i H x H' hi e y => ?_⟩
  · rw [zipD_len, ← im.length, ← im'.length]
    refine ⟨fun i H hi q => ?_, fun H q => ⟨xs, ys, sqt_per (per_same q) h, sqt_per (per_same q) h', by omega⟩, fun i H v H' _ q y => ?_⟩
    · have h1 : i < xs.length := by omega
      have h2 : i < ys.length := by omega
      exact ⟨xs, ys, xs[i], ys[i], sqt_per (per_same q) h, sqt_per (per_same q) h', by simp [h1], by simp [h2]⟩
    · obtain ⟨T, x, z, h1, h2, h3, h4, h5⟩ := y
      exact ⟨T, x, z, h1, h2, h3, h4 xs (sqt_per (per_same q) h), h5 ys (sqt_per (per_same q) h')⟩
  · obtain ⟨T, x1, y1, rfl, hT, rfl, e1, e2⟩ := y
    obtain ⟨d, h1, h2⟩ := im.getV e1
    obtain ⟨d', h3, h4⟩ := im'.getV e2
    have sm : Same H (upd H T (.tup [x1, y1])) := same_new hT
    exact ⟨sm, _, zipD_get h1 h3, .tup (SqT.of upd_same) (.cons (h2.to (per_same (e.trans sm))) (.cons (h4.to (per_same (e.trans sm))) .nil))⟩
/-- what may be walked, as it lies: at H, and in the part that no write reaches -/
theorem walked_sq {B H0 H1 : Hp} {v : V} {r : Res} {ds : List PyData} (e1 : Same B H1) (o : ResOk K B H0 H1 v r) (h : r.walked = some ds) : ∃ b p vs, v = .ref p ∧ Sq K b H1 p vs ∧ ImAll K H1 vs ds := by
  cases r with
  | dat d =>
    cases d <;> cases h
    · cases o with
      | lst h1 h2 => exact ⟨true, _, _, rfl, h1.seq, h2⟩
    · cases o with
      | tup h1 h2 => exact ⟨false, _, _, rfl, h1, h2⟩
  | bor es =>
    cases h
    obtain ⟨p, vs, rfl, h1, h2⟩ := o
    exact ⟨true, p, vs, rfl, h1.seq e1, h2⟩
  | len es =>
    cases h
    obtain ⟨p, vs, rfl, h1, h2⟩ := o
    exact ⟨true, p, vs, rfl, SqL.of h1, h2⟩
  | fresh es =>
    cases h
    obtain ⟨p, vs, rfl, _, h1, h2⟩ := o
    exact ⟨true, p, vs, rfl, SqL.of h1, h2⟩
  | bag => cases h
theorem still_sq {B H0 H1 : Hp} {v : V} {r : Res} {ds : List PyData} (e1 : Same B H1) (o : ResOk K B H0 H1 v r) (h : r.still = some ds) : ∃ b p vs, v = .ref p ∧ Sq K b H1 p vs ∧ Sq K b (core B H1) p vs ∧ ImAll K (core B H1) vs ds := by
  cases r with
  | dat d =>
    cases d <;> cases h
    · cases o with
      | lst h1 h2 => exact ⟨true, _, _, rfl, h1.seq, (h1.per core_per).seq, h2.to core_per⟩
    · cases o with
      | tup h1 h2 => exact ⟨false, _, _, rfl, h1, sqt_per core_per h1, h2.to core_per⟩
  | bor es =>
    cases h
    obtain ⟨p, vs, rfl, h1, h2⟩ := o
    exact ⟨true, p, vs, rfl, h1.seq e1, sqb_core e1 h1, h2.to core_per⟩
  | len es => cases h
  | fresh es => cases h
  | bag => cases h
theorem itl_enum {k : List PyData → Prop} (h : EvA K ta δ fun rs => ∃ x ds, rs = [x] ∧ x.still = some ds ∧ k (enumD ds)) : ItL K (iEnumA K ta) δ k := by
  intro B H σ R Rr q
  refine h B H σ R _ fun vs H1 rs e o ⟨x, ds, hx, hs, hk⟩ => ?_
  subst hx
  cases o with
  | cons o1 o2 =>
    cases o2
    obtain ⟨b, p, vs, rfl, h1, h2, h3⟩ := still_sq (R.same.trans e) o1 hs
    exact ⟨b, p, vs, rfl, h1, q _ H1 _ e (walk_eA h2 h3) hk⟩
theorem ite_enum {k : List PyData → Prop} (h : EvA K ta δ fun rs => ∃ x ds, rs = [x] ∧ x.walked = some ds ∧ k (enumD ds)) : ItE K (iEnumA K ta) δ k := by
  intro B H σ R Rr q
  refine h B H σ R _ fun vs H1 rs e o ⟨x, ds, hx, hs, hk⟩ => ?_
  subst hx
  cases o with
  | cons o1 o2 =>
    cases o2
    obtain ⟨b, p, vs, rfl, h1, h3⟩ := walked_sq (R.same.trans e) o1 hs
    exact ⟨b, p, vs, rfl, h1, q _ H1 _ e (walk_eA h1 h3) hk⟩
/-- tuple(zip(a, b)), two lists -/
theorem im_of_get {H : Hp} : ∀ (vs : List V) (ds : List PyData), vs.length = ds.length → (∀ (j : Nat) (v : V), vs[j]? = some v → ∃ d, ds[j]? = some d ∧ Im K H v d) → ImAll K H vs ds
  | [], [], _, _ => .nil
  | [], _ :: _, h, _ => by simp at h
  | _ :: _, [], h, _ => by simp at h
  | v :: vs, d :: ds, h, g => by
    obtain ⟨d', h1, h2⟩ := g 0 v rfl
    cases h1
    exact .cons h2 (im_of_get vs ds (by simpa using h) fun j u hu => g (j + 1) u hu)
theorem ec_tupZip {k : Res → Prop} (h : EvA K ta δ fun rs => ∃ x y ds es, rs = [x, y] ∧ x.items = some ds ∧ y.items = some es ∧ min ds.length es.length ≤ 1000000 ∧ k (.dat (.tuple (zipD ds es)))) : EvC K (tTupZip K ta) δ k := by
  intro B H σ R Q q
  refine h B H σ R _ fun vs H1 rs e o ⟨x, y, ds, es, hx, hd, he, hz, hk⟩ => ?_
  subst hx
  cases o with
  | cons o1 o2 =>
    cases o2 with
    | cons o2 o3 =>
      cases o3
      obtain ⟨a, xs, rfl, h1, h2⟩ := o1.list (R.same.trans e) hd
      obtain ⟨b, ys, rfl, h3, h4⟩ := o2.list (R.same.trans e) he
      refine ⟨a, b, xs, ys, rfl, h1, h3, by rw [h2.length, h4.length]; exact hz, fun vs' H2 p e2 im hp => ?_⟩
      refine q _ _ _ (e.trans (e2.trans (same_new hp))) (rTupN hp ?_) hk
      refine im_of_get _ _ (by rw [im.1, zipD_len, h2.length, h4.length]) fun j v hj => ?_
      obtain ⟨T, x, y, rfl, t2, t3, t4⟩ := im.2 j v hj
      obtain ⟨d, g1, g2⟩ := h2.getV t2
      obtain ⟨d', g3, g4⟩ := h4.getV t3
      exact ⟨_, zipD_get g1 g3, .tup (SqT.of t4) (.cons (g2.to (per_same e2)) (.cons (g4.to (per_same e2)) .nil))⟩
theorem qTupZip {X : Cx} (K : PySem.W.Frag) {e e2 : Expr} {ta : TA} {p p' pos pos' : Pos} (hmt : X.mg "tuple" = none) (hmz : X.mg "zip" = none) (ha : PA X [e, e2] ta) (h : X.K = K := by rfl) (hc : X.calm = true := by rfl) (hgt : Gl X "tuple" := by rfl) (hgz : Gl X "zip" := by rfl)
    (hs : starEach [e, e2] X.env = (false, eval e X.env) :: starEach [e2] X.env := by rfl) (hpl : (backTo pos' (starEach [e2] X.env)).any (·.1) = false := by rfl)
    (na : starEach [.Call (.Name "zip" p') [e, e2] [] pos'] X.env = (false, eval (.Call (.Name "zip" p') [e, e2] [] pos') X.env) :: starEach [] X.env := by rfl) :
    PE X (.Call (.Name "tuple" p) [.Call (.Name "zip" p') [e, e2] [] pos'] [] pos) (tTupZip K ta) := by subst h; exact pe_tupZip hmt hmz ha hc hgt hgz hs hpl na
/-! ### != of words -/
def rNeA (K : PySem.W.Frag) : R2 := fun x y H Q => rNeD K x y H Q ∨ rNe x y H Q
theorem qNeA {X : Cx} (K : PySem.W.Frag) (hu : X.A.units + 64 < cLine) (h : X.K = K := by rfl) : OpR X (compareOp .NotEq) (rNeA K) := by subst h; exact .or (oNe hu) op_ne
inductive NeQ : Res → Res → (Res → Prop) → Prop
  | d {x y : Res} {k : Res → Prop} : NeP x y k → NeQ x y k
  | s {x y : Str} {k : Res → Prop} : k (.dat (.bool (!decide (x = y)))) → NeQ (.dat (.str x)) (.dat (.str y)) k
theorem neq_i {i j : Int} {k : Res → Prop} (g : k (.dat (.bool (!decide (i = j))))) : NeQ (.dat (.int i)) (.dat (.int j)) k := .d (.int g)
theorem neq_g {x y : Res} {d e : PyData} {k : Res → Prop} (h1 : x.data = some d) (h2 : y.data = some e) (h3 : SeqAt.shaped d = true) (h4 : SeqAt.shaped e = true) (g : k (.dat (.bool (!PyData.eqv d e)))) : NeQ x y k := .d (.gen h1 h2 h3 h4 g)
theorem opNeA : OpOk K (rNeA K) NeQ := by
  intro B H H1 x y rx ry k Q e0 e1 ox oy p q
  cases p with
  | d p => exact .inl (opNe B H H1 x y rx ry k Q e0 e1 ox oy p q)
  | s g =>
    cases ox; cases oy
    refine .inr ⟨rfl, q _ _ _ (Same.refl _) rBl ?_⟩
    rw [dec_str]
    exact g
theorem cut_map {α : Type} (f : α → PyData) (xs : List α) (lo hi : Option Int) : ∃ ys : List α, cutD (xs.map f) lo hi = ys.map f ∧ ys.length ≤ xs.length ∧ ∀ y ∈ ys, y ∈ xs := by
  unfold cutD
  rw [← List.map_drop, ← List.map_take]
  refine ⟨_, rfl, ?_, fun m hm => List.mem_of_mem_drop (List.mem_of_mem_take hm)⟩
  simp only [List.length_take, List.length_drop]
  omega
theorem mapsP {α : Type} (f : α → PyData) {P : α → Prop} : ∀ (out : List PyData), (∀ (i : Nat) (e : PyData), out[i]? = some e → ∃ n, e = f n ∧ P n) → ∃ ns : List α, out = ns.map f ∧ ∀ n ∈ ns, P n
  | [], _ => ⟨[], rfl, by simp⟩
  | d :: r, h => by
    obtain ⟨n, rfl, hn⟩ := h 0 d rfl
    obtain ⟨ns, rfl, hs⟩ := mapsP f r fun i e he => h (i + 1) e he
    exact ⟨n :: ns, rfl, fun x hx => by
      rcases List.mem_cons.mp hx with rfl | hx
      · exact hn
      · exact hs x hx⟩
/-- a loop, an invariant of what was walked -/
theorem forp_inv {β α : Type} {g : TG} {tb : TS} {nx : List Slot → Prop} {rt : Res → Prop} (xs : List β) (enc : β → PyData) (I : List β → α → Prop) (δI : α → List Slot) (h0 : ∃ a, I [] a ∧ Wk δ (δI a))
    (turn : ∀ (pre : List β) (x : β) (post : List β) (a : α), xs = pre ++ x :: post → I pre a → GS K g (.dat (enc x)) (δI a) fun δ' => SD K tb ⟨fun δ2 => ∃ a', I (pre ++ [x]) a' ∧ Wk δ2 (δI a'), rt, nx, fun δ2 => ∃ a', I (pre ++ [x]) a' ∧ Wk δ2 (δI a')⟩ δ')
    (fin : ∀ a, I xs a → nx (δI a)) : ForP K (xs.map enc) g tb nx rt δ := by
  refine ⟨α, fun i a => I (xs.take i) a, δI, h0, fun i a d hd ha => ?_, fun a ha => ?_⟩
  · rw [List.getElem?_map] at hd
    cases hx : xs[i]? with
    | none => rw [hx] at hd; cases hd
    | some x =>
      rw [hx] at hd
      cases hd
      obtain ⟨hi, hxi⟩ := List.getElem?_eq_some_iff.mp hx
      have e1 : xs.take (i + 1) = xs.take i ++ [x] := by rw [List.take_add_one, hx]; rfl
      have e2 : xs = xs.take i ++ x :: xs.drop (i + 1) := by
        rw [← hxi, ← List.drop_eq_getElem_cons hi, List.take_append_drop]
      have t := turn _ x _ a e2 ha
      rw [← e1] at t
      exact t
  · rw [List.length_map, List.take_length] at ha
    exact fin a ha
end
end Dl

/-! own layer: zip walked; in of a tuple -/
namespace Dl
open PySem PySem.Spec L2 PyProof.Rows RZ
section
variable {K : PySem.W.Frag} {δ : List Slot} {te : TE} {ta : TA}
theorem qZip {X : Cx} (K : PySem.W.Frag) {e e2 : Expr} {ta : TA} {p pos tpos : Pos} {elts : List Expr} {kk : Nat} (hm : X.mg "zip" = none) (ha : PA X [e, e2] ta) (h : X.K = K := by rfl) (hg : Gl X "zip" := by rfl)
    (hs : starEach [e, e2] X.env = (false, eval e X.env) :: starEach [e2] X.env := by rfl) (hpl : (backTo pos (starEach [e2] X.env)).any (·.1) = false := by rfl) :
    PI X (.Tuple elts kk tpos) (.Call (.Name "zip" p) [e, e2] [] pos) (iZipA K ta) := by subst h; exact pi_zipA hg hm ha hs hpl
/-- both lists, or both tuples -/
inductive ZipQ (f : Res → Option (List PyData)) : List Res → (List PyData → Prop) → Prop
  | l {x y : Res} {ds es : List PyData} {k : List PyData → Prop} : x.items = some ds → f x = some ds → y.items = some es → f y = some es → k (zipD ds es) → ZipQ f [x, y] k
  | t {ds es : List PyData} {k : List PyData → Prop} : k (zipD ds es) → ZipQ f [.dat (.tuple ds), .dat (.tuple es)] k
theorem still_l {B H0 H1 : Hp} {v : V} {r : Res} {ds : List PyData} (e1 : Same B H1) (o : ResOk K B H0 H1 v r) (hi : r.items = some ds) (h : r.still = some ds) : ∃ p vs, v = .ref p ∧ SqL K H1 p vs ∧ SqL K (core B H1) p vs ∧ ImAll K (core B H1) vs ds := by
  cases r with
  | dat d =>
    cases d <;> cases hi
    cases o with
    | lst h1 h2 => exact ⟨_, _, rfl, h1.seq, (h1.per core_per).seq, h2.to core_per⟩
  | bor es =>
    cases hi
    obtain ⟨p, vs, rfl, h1, h2⟩ := o
    exact ⟨p, vs, rfl, h1.seq e1, sqb_core e1 h1, h2.to core_per⟩
  | len es => cases h
  | fresh es => cases h
  | bag => cases h
theorem itl_zip {k : List PyData → Prop} (h : EvA K ta δ fun rs => ZipQ Res.still rs k) : ItL K (iZipA K ta) δ k := by
  intro B H σ R Rr q
  refine h B H σ R _ fun vs H1 rs e o z => ?_
  cases z with
  | l h1 h2 h3 h4 g =>
    cases o with
    | cons o1 o2 =>
      cases o2 with
      | cons o2 o3 =>
        cases o3
        obtain ⟨p, xs, rfl, a1, a2, a3⟩ := still_l (R.same.trans e) o1 h1 h2
        obtain ⟨r, ys, rfl, b1, b2, b3⟩ := still_l (R.same.trans e) o2 h3 h4
        exact ⟨p, r, xs, ys, rfl, .inl ⟨a1, b1, q _ H1 _ e (walk_zL a2 b2 a3 b3) g⟩⟩
  | t g =>
    cases o with
    | cons o1 o2 =>
      cases o2 with
      | cons o2 o3 =>
        cases o3
        cases o1 with
        | tup a1 a3 =>
          cases o2 with
          | tup b1 b3 => exact ⟨_, _, _, _, rfl, .inr ⟨a1, b1, q _ H1 _ e (walk_zT (sqt_per core_per a1) (sqt_per core_per b1) (a3.to core_per) (b3.to core_per)) g⟩⟩
theorem ite_zip {k : List PyData → Prop} (h : EvA K ta δ fun rs => ZipQ Res.items rs k) : ItE K (iZipA K ta) δ k := by
  intro B H σ R Rr q
  refine h B H σ R _ fun vs H1 rs e o z => ?_
  cases z with
  | l h1 h2 h3 h4 g =>
    cases o with
    | cons o1 o2 =>
      cases o2 with
      | cons o2 o3 =>
        cases o3
        obtain ⟨p, xs, rfl, a1, a2⟩ := o1.list (R.same.trans e) h1
        obtain ⟨r, ys, rfl, b1, b2⟩ := o2.list (R.same.trans e) h3
        exact ⟨p, r, xs, ys, rfl, .inl ⟨a1, b1, q _ H1 _ e (walk_zL a1 b1 a2 b2) g⟩⟩
  | t g =>
    cases o with
    | cons o1 o2 =>
      cases o2 with
      | cons o2 o3 =>
        cases o3
        cases o1 with
        | tup a1 a3 =>
          cases o2 with
          | tup b1 b3 => exact ⟨_, _, _, _, rfl, .inr ⟨a1, b1, q _ H1 _ e (walk_zT a1 b1 a3 b3) g⟩⟩
/-! ### in, not in: lists and tuples -/
def rInT (f : Bool → Bool) (K : PySem.W.Frag) : R2 := fun x y H Q => ∃ d ds, Dp K H x d ∧ Dp K H y (.tuple ds) ∧ SeqAt.shaped d = true ∧ SeqAt.shaped (.tuple ds) = true ∧ Q (.bl (f (ds.any fun z => PyData.eqv z d))) H
theorem op_inT {X : Cx} (hu : X.A.units + 65 < cLine) : OpR X (compareOp .In) (rInT id X.K) := by
  intro pins s σ H x y v u Q I rx ry h
  obtain ⟨d, ds, hd, he, sd, se, q⟩ := h
  obtain ⟨as, r1⟩ := Dp.reads I d x v hd rx
  obtain ⟨bs, r2⟩ := Dp.reads I (.tuple ds) y u he ry
  exact SeqAt.in_tuple_reads r2 r1 (SeqAt.canLay_of_shaped se) (SeqAt.canLay_of_shaped sd) (room_in_shaped sd hu) ⟨.bl _, H, I, rfl, q⟩
theorem op_notInT {X : Cx} (hu : X.A.units + 65 < cLine) : OpR X (compareOp .NotIn) (rInT not X.K) := by
  intro pins s σ H x y v u Q I rx ry h
  obtain ⟨d, ds, hd, he, sd, se, q⟩ := h
  obtain ⟨as, r1⟩ := Dp.reads I d x v hd rx
  obtain ⟨bs, r2⟩ := Dp.reads I (.tuple ds) y u he ry
  exact SeqAt.notIn_tuple_reads r2 r1 (SeqAt.canLay_of_shaped se) (SeqAt.canLay_of_shaped sd) (room_in_shaped sd hu) ⟨.bl _, H, I, rfl, q⟩
def rInA (K : PySem.W.Frag) : R2 := fun x y H Q => rInD K x y H Q ∨ rInT id K x y H Q
def rNotInA (K : PySem.W.Frag) : R2 := fun x y H Q => rNotInD K x y H Q ∨ rInT not K x y H Q
theorem qInA {X : Cx} (K : PySem.W.Frag) (hu : X.A.units + 65 < cLine) (h : X.K = K := by rfl) : OpR X (compareOp .In) (rInA K) := by subst h; exact .or (op_inD hu) (op_inT hu)
theorem qNotInA {X : Cx} (K : PySem.W.Frag) (hu : X.A.units + 65 < cLine) (h : X.K = K := by rfl) : OpR X (compareOp .NotIn) (rNotInA K) := by subst h; exact .or (op_notInD hu) (op_notInT hu)
inductive InQ (f : Bool → Bool) : Res → Res → (Res → Prop) → Prop
  | l {x y : Res} {k : Res → Prop} : InP f x y k → InQ f x y k
  | t {x : Res} {d : PyData} {ds : List PyData} {k : Res → Prop} : x.data = some d → SeqAt.shaped d = true → SeqAt.shaped (.tuple ds) = true → k (.dat (.bool (f (ds.any fun z => PyData.eqv z d)))) → InQ f x (.dat (.tuple ds)) k
theorem opInA : OpOk K (rInA K) (InQ id) := by
  intro B H H1 x y rx ry k Q e0 e1 ox oy p q
  cases p with
  | l p => exact .inl (opIn B H H1 x y rx ry k Q e0 e1 ox oy p q)
  | t hx sx sy g => exact .inr ⟨_, _, ox.dp (e0.trans e1) hx, oy.dp (e0.trans e1) rfl, sx, sy, q _ _ _ (Same.refl _) rBl g⟩
theorem opNotInA : OpOk K (rNotInA K) (InQ not) := by
  intro B H H1 x y rx ry k Q e0 e1 ox oy p q
  cases p with
  | l p => exact .inl (opNotIn B H H1 x y rx ry k Q e0 e1 ox oy p q)
  | t hx sx sy g => exact .inr ⟨_, _, ox.dp (e0.trans e1) hx, oy.dp (e0.trans e1) rfl, sx, sy, q _ _ _ (Same.refl _) rBl g⟩
theorem inq_l {f : Bool → Bool} {x y : Res} {d : PyData} {ds : List PyData} {k : Res → Prop} (h1 : x.data = some d) (h2 : y.items = some ds) (h3 : SeqAt.shaped d = true) (h4 : SeqAt.shaped (.list ds) = true) (g : k (.dat (.bool (f (ds.any fun z => PyData.eqv z d))))) : InQ f x y k := .l (.lst h1 h2 h3 h4 g)
end
end Dl

/-! own layer: max, min, sorted of a list of ints; a break's loop -/
namespace Dl
open PySem PySem.Spec L2 PyProof.Rows
section
variable {K : PySem.W.Frag} {δ : List Slot} {te : TE} {ta : TA}
theorem qMax1 {X : Cx} (K : PySem.W.Frag) (h : X.K = K := by rfl) (hc : X.calm = true := by rfl) : CallR X (.builtin "max") (rMax K) := by subst h; exact cr_max hc
theorem qMin1 {X : Cx} (K : PySem.W.Frag) (h : X.K = K := by rfl) (hc : X.calm = true := by rfl) : CallR X (.builtin "min") (rMin K) := by subst h; exact cr_min hc
theorem qSorted {X : Cx} (K : PySem.W.Frag) (h : X.K = K := by rfl) : CallR X (.builtin "sorted") (rSortedI K) := by subst h; exact cr_sortedI
theorem im_ints {H : Hp} {vs : List V} {ns : List Int} (h : ImAll K H vs (ns.map .int)) : vs = ns.map V.int := by
  have := h.of_ints
  exact this
inductive MaxP : List Res → (Res → Prop) → Prop
  | mk {x : Res} {ns : List Int} {k : Res → Prop} : x.items = some (ns.map .int) → 0 < ns.length → (∀ m, m ∈ ns → (∀ y, y ∈ ns → y ≤ m) → k (.dat (.int m))) → MaxP [x] k
theorem cbMax1 : CbOk K (rMax K) MaxP := by
  intro B H H1 vs rs k Q e0 e1 o p q
  cases p with
  | mk hx hl g =>
    cases o with
    | cons o1 o2 =>
      cases o2
      obtain ⟨a, xs, rfl, h1, h2⟩ := o1.list (e0.trans e1) hx
      rw [im_ints h2] at h1
      exact ⟨a, _, rfl, h1, hl, fun m hm hy => q _ _ _ (Same.refl _) rInt (g m hm hy)⟩
inductive MinP : List Res → (Res → Prop) → Prop
  | mk {x : Res} {ns : List Int} {k : Res → Prop} : x.items = some (ns.map .int) → 0 < ns.length → (∀ m, m ∈ ns → (∀ y, y ∈ ns → m ≤ y) → k (.dat (.int m))) → MinP [x] k
theorem cbMin1 : CbOk K (rMin K) MinP := by
  intro B H H1 vs rs k Q e0 e1 o p q
  cases p with
  | mk hx hl g =>
    cases o with
    | cons o1 o2 =>
      cases o2
      obtain ⟨a, xs, rfl, h1, h2⟩ := o1.list (e0.trans e1) hx
      rw [im_ints h2] at h1
      exact ⟨a, _, rfl, h1, hl, fun m hm hy => q _ _ _ (Same.refl _) rInt (g m hm hy)⟩
inductive SortP : List Res → (Res → Prop) → Prop
  | mk {x : Res} {ns : List Int} {k : Res → Prop} : x.items = some (ns.map .int) → (∀ ms : List Int, ms.Perm ns → ms.Pairwise (· ≤ ·) → k (.fresh (ms.map .int))) → SortP [x] k
theorem cbSorted : CbOk K (rSortedI K) SortP := by
  intro B H H1 vs rs k Q e0 e1 o p q
  cases p with
  | mk hx g =>
    cases o with
    | cons o1 o2 =>
      cases o2
      obtain ⟨a, xs, rfl, h1, h2⟩ := o1.list (e0.trans e1) hx
      rw [im_ints h2] at h1
      exact ⟨a, _, rfl, h1, fun ms l hp hs hl => q _ _ _ (same_new hl) (rFreshN e1 hl (ImAll.ints ms)) (g ms hp hs)⟩
end
end Dl

/-! own layer: sorted(set(xs)), xs a list of tuples of ints -/
namespace Dl
open PySem PySem.Spec L2 PyProof.Rows
section
variable {K : PySem.W.Frag} {P : Program} {w : World} {δ : List Slot} {te : TE} {k : Res → Prop}
def tupD (m : List Int) : PyData := .tuple (m.map .int)
theorem im_tups {H : Hp} : ∀ (vs : List V) (cs : List (List Int)), ImAll K H vs (cs.map tupD) → ∃ ks : List (Addr × List Int), vs = ks.map (fun p => V.ref p.1) ∧ ks.map (·.2) = cs ∧ ∀ p ∈ ks, SqT K H p.1 (p.2.map V.int)
  | [], [], _ => ⟨[], rfl, rfl, by simp⟩
  | v :: vs, c :: cs, .cons h1 h2 => by
    obtain ⟨ks, e1, e2, e3⟩ := im_tups vs cs h2
    cases h1 with
    | @tup a xs _ q im =>
      rw [im_ints im] at q
      refine ⟨(a, c) :: ks, by rw [e1]; rfl, by rw [← e2]; rfl, fun p hp => ?_⟩
      rcases List.mem_cons.mp hp with rfl | hp
      · exact q
      · exact e3 p hp
theorem tups_im {H : Hp} : ∀ (ks : List (Addr × List Int)), (∀ p ∈ ks, SqT K H p.1 (p.2.map V.int)) → ImAll K H (ks.map fun p => V.ref p.1) ((ks.map (·.2)).map tupD)
  | [], _ => .nil
  | p :: ks, h => .cons (.tup (h p (by simp)) (ImAll.ints p.2)) (tups_im ks fun q hq => h q (List.mem_cons_of_mem _ hq))
theorem qSortT {X : Cx} (K : PySem.W.Frag) (P : Program) (w : World) (h : X.K = K := by rfl) (hP : X.prog = P := by rfl) (hw : X.w = w := by rfl) (hc : X.calm = true := by rfl) : CallR X (.builtin "sorted") (rSortedT K P w) := by subst h hP hw; exact cr_sortedT hc
theorem qSetT {X : Cx} (K : PySem.W.Frag) (P : Program) (w : World) (hu : X.A.units + 64 < cLine) (h : X.K = K := by rfl) (hP : X.prog = P := by rfl) (hw : X.w = w := by rfl) (hc : X.calm = true := by rfl) : CallR X (.type "set") (rSetOfT K P w) := by subst h hP hw; exact cr_setOfT hc hu
theorem ec_sortSet (h : EvC K te δ fun x => ∃ (cs : List (List Int)) (d : Nat) (B : Int), x.items = some (cs.map tupD) ∧ cs.length < 64 ∧ 1 ≤ d ∧ (∀ c ∈ cs, c.length = d ∧ TS.Bd B c) ∧
    ∀ ms : List (List Int), ms.Nodup → (∀ m, m ∈ ms ↔ m ∈ cs) → ms.length < 64 → ms.Pairwise (fun q r => TS.code B q ≤ TS.code B r) → k (.fresh (ms.map tupD))) :
    EvC K (tCB (rSortedT K P w) (tCons (tCB (rSetOfT K P w) (tCons te tNil)) tNil)) δ k := by
  intro B H σ R Q q
  refine h B H σ R _ fun v H1 x e o ⟨cs, d, Bd, hx, hl, hd, hc, g⟩ => ?_
  obtain ⟨p, vs, rfl, h1, h2⟩ := o.list (R.same.trans e) hx
  obtain ⟨ks, e1, e2, e3⟩ := im_tups vs cs h2
  rw [e1] at h1
  have hkl : ks.length < 64 := by rw [← e2, List.length_map] at hl; exact hl
  refine ⟨p, ks, rfl, h1, e3, hkl, fun a L ha s1 s2 => ?_⟩
  have sm : Same H1 (upd H1 a (SetTO P w a L)) := same_new ha
  refine ⟨a, L, d, Bd, rfl, upd_same, fun p hp => sqt_per (per_same sm) (e3 p (s1 p hp)), hd, fun p hp => hc p.2 ?_, fun L' r hp hn hl' hs hr => ?_⟩
  · rw [← e2]
    exact List.mem_map_of_mem (s1 p hp)
  · have sub : ∀ p ∈ L', p ∈ ks := fun p hp' => s1 p (hp.mem_iff.mp hp')
    have e4 : (L'.map fun q => V.ref q.1) = (L'.map fun p => V.ref p.1) := rfl
    refine q _ _ _ (e.trans (sm.trans (same_new hr))) (rFreshN (e.trans sm) hr (ds := (L'.map (·.2)).map tupD) (tups_im L' fun p hp' => sqt_per (per_same sm) (e3 p (sub p hp')))) (g _ hn (fun m => ⟨fun hm => ?_, fun hm => ?_⟩) (by rw [List.length_map]; exact hl') (List.pairwise_map.mpr hs))
    · obtain ⟨p, hp', rfl⟩ := List.mem_map.mp hm
      rw [← e2]
      exact List.mem_map_of_mem (sub p hp')
    · rw [← e2] at hm
      obtain ⟨p, hp', rfl⟩ := List.mem_map.mp hm
      have := s2 p hp'
      obtain ⟨p2, hp2, e5⟩ := List.mem_map.mp this
      rw [← e5]
      exact List.mem_map_of_mem (hp.mem_iff.mpr hp2)
end
end Dl

/-! own layer: a tuple times 1 -/
namespace Dl
open PySem PySem.Spec L2 PyProof.Rows
theorem tuple_mul_same (l : Addr) (items : Array Value) (n : Nat) (dd : Option Addr) (sl : Array (Option Value)) (x : Int) (u : Tok) (c0 : (decide (x < -(2 ^ 63)) || decide (x ≥ 2 ^ 63)) = false) (c1 : (items.isEmpty || x == 1) = true) :
    Meets (Builtin.«tuple.__mul__» ⟨[.ref l, .int x u], []⟩) (fun _ R s => s.heap.get? l = some { cls := .type "tuple", dict := dd, data := .seq items n, slots := sl } ∧ R (.ok (.ret (Value.ref l))) s) :=
  .of_wp fun prog w A R s h => by
    obtain ⟨hp, g, d, tk, os⟩ := s
    obtain ⟨hl, h⟩ := h
    have f1 := AutoSeq1.idx_int
    wp_walk using wpAny_loadPart' hl
    repeat (first
      | (refine wpAny_ite_false (decide_eq_false (by rw [c0]; exact Bool.false_ne_true)) ?_; wp_walk using wpAny_loadPart' hl)
      | (refine wpAny_ite_true (decide_eq_true c1) ?_; wp_walk using wpAny_loadPart' hl)
      | (rw [if_pos c1]; wp_walk using wpAny_loadPart' hl))
    exact ⟨_, rfl, h⟩
def rRep1 (K : PySem.W.Frag) : R2 := fun x y H Q => ∃ l k xs, x = .ref l ∧ y = .int k ∧ SqT K H l xs ∧ (xs = [] ∧ -(2 ^ 63) ≤ k ∧ k < 2 ^ 63 ∨ k = 1) ∧ Q (.ref l) H
theorem op_rep1 {X : Cx} : OpR X (binaryOp .Mult) (rRep1 X.K) := by
  intro pins s σ H x y v u Q I rx ry h
  obtain ⟨l, k, xs, rfl, rfl, hT, hk, q⟩ := h
  cases rx
  obtain ⟨t, rfl⟩ := ry
  obtain ⟨its, r, ⟨⟨cls, dd, data, sl⟩, ho, hc, n, hd⟩, hs⟩ := I.tuple hT
  simp only at hc hd
  subst hc hd
  have c0 : (decide (k < -(2 ^ 63)) || decide (k ≥ 2 ^ 63)) = false := by
    rw [decide_eq_false (by omega), decide_eq_false (by omega)] <;> rfl
  have c1 : (its.toArray.isEmpty || k == 1) = true := by
    rcases hk with ⟨rfl, _⟩ | rfl
    · cases r
      rfl
    · simp
  exact wpAny_binaryOp_repeat_ref (T := "tuple") (U := "int") (by decide) ⟨_, ho, rfl⟩ (fun s' => typeIs_int s' k t) noFill_tuple_mul F.fills_int_mul F.slot_int_rmul repeat_tuple F.slot_int_index.lookup
    (call_meets F.slot_int_rmul (typeIs_int s k t) F.entry_int_rmul (F.args_int_rmul_2 _ _) (int_rmul_tuple k t l its.toArray n dd sl)
      ⟨ho, rfl, ⟨_, ho, rfl⟩, call_meets F.slot_tuple_mul ⟨_, ho, rfl⟩ F.entry_tuple_mul (F.args_tuple_mul_2 _ _) (tuple_mul_same l its.toArray n dd sl k t c0 c1) ⟨ho, .ref l, H, I, rfl, q⟩⟩)
section
variable {K : PySem.W.Frag} {k : Res → Prop}
def rMulB (K : PySem.W.Frag) : R2 := fun x y H Q => rMulA K x y H Q ∨ rRep1 K x y H Q
theorem qMulB {X : Cx} (K : PySem.W.Frag) (h : X.K = K := by rfl) : OpR X (binaryOp .Mult) (rMulB K) := by subst h; exact .or (qMulA X.K) op_rep1
inductive MulR : Res → Res → (Res → Prop) → Prop
  | q {x y : Res} {k : Res → Prop} : MulQ x y k → MulR x y k
  | one {ds : List PyData} {n : Int} {k : Res → Prop} : (ds = [] ∧ -(2 ^ 63) ≤ n ∧ n < 2 ^ 63 ∨ n = 1) → k (.dat (.tuple ds)) → MulR (.dat (.tuple ds)) (.dat (.int n)) k
theorem opMulB : OpOk K (rMulB K) MulR := by
  intro B H H1 x y rx ry k Q e0 e1 ox oy p q
  cases p with
  | q p => exact .inl (opMulA B H H1 x y rx ry k Q e0 e1 ox oy p q)
  | one hn g =>
    cases ox with
    | tup sx ix =>
      cases oy
      refine .inr ⟨_, _, _, rfl, rfl, sx, ?_, q _ _ _ (Same.refl _) (rTup sx ix) g⟩
      rcases hn with ⟨rfl, h⟩ | h
      · cases ix
        exact .inl ⟨rfl, h⟩
      · exact .inr h
theorem mulr_l {i j : Int} (h1 : -(2 ^ 64) < i) (h2 : i < 2 ^ 64) (g : k (.dat (.int (i * j)))) : MulR (.dat (.int i)) (.dat (.int j)) k := .q (mulq_l h1 h2 g)
theorem mulr_r {i j : Int} (h1 : -(2 ^ 64) < j) (h2 : j < 2 ^ 64) (g : k (.dat (.int (i * j)))) : MulR (.dat (.int i)) (.dat (.int j)) k := .q (mulq_r h1 h2 g)
theorem mulr_w {i j : Int} (h : CMulW i j) (g : k (.dat (.int (i * j)))) : MulR (.dat (.int i)) (.dat (.int j)) k := .q (mulq_w h g)
theorem mulr_lst {x : Res} {ds : List PyData} {n : Int} (h1 : x.mine = some ds) (h2 : -(2 ^ 63) ≤ n) (h3 : n < 2 ^ 63) (h4 : ds.length * n.toNat ≤ sizeLine) (g : k (.fresh (List.replicate n.toNat ds).flatten)) : MulR x (.dat (.int n)) k := .q (.w (.lst h1 h2 h3 h4 g))
/-- a tuple times a small number -/
theorem mulr_tup {ds : List PyData} {n : Int} (h1 : 0 < n) (h2 : n ≤ 1000) (h3 : ds.length ≤ 1000) (g : k (.dat (.tuple (List.replicate n.toNat ds).flatten))) : MulR (.dat (.tuple ds)) (.dat (.int n)) k := by
  by_cases h : n = 1
  · subst h
    refine .one (.inr rfl) ?_
    have e : (List.replicate (1 : Int).toNat ds).flatten = ds := by simp
    rw [e] at g
    exact g
  · cases ds with
    | nil =>
      refine .one (.inl ⟨rfl, by omega, by omega⟩) ?_
      have e : (List.replicate n.toNat ([] : List PyData)).flatten = [] := by simp
      rw [e] at g
      exact g
    | cons d r => exact .q (.w (.tup (by simp) (by omega) h2 h3 g))
end
end Dl

/-! own layer: cuts told, shaped lists, == [] -/
namespace Dl
open PySem PySem.Spec L2 PyProof.Rows
section
variable {K : PySem.W.Frag} {δ : List Slot} {k : Res → Prop}
theorem cut_take (ds : List PyData) {r : Nat} (h : r ≤ ds.length) : cutD ds none (some ((r : Nat) : Int)) = ds.take r := by
  unfold cutD
  have e1 : HT.sIx ds.length 0 none = 0 := by unfold HT.sIx; rfl
  have e2 : HT.sIx ds.length ds.length (some ((r : Nat) : Int)) = r := by
    unfold HT.sIx
    dsimp only
    split <;> omega
  rw [e1, e2]
  rfl
theorem cut_drop (ds : List PyData) (j : Nat) : cutD ds (some ((j : Nat) : Int)) none = ds.drop j := by
  unfold cutD
  have e1 : HT.sIx ds.length 0 (some ((j : Nat) : Int)) = min j ds.length := by
    unfold HT.sIx
    dsimp only
    split <;> omega
  have e2 : HT.sIx ds.length ds.length none = ds.length := by unfold HT.sIx; rfl
  rw [e1, e2]
  by_cases h : j ≤ ds.length
  · rw [Nat.min_eq_left h, List.take_of_length_le (by rw [List.length_drop]; omega)]
  · rw [Nat.min_eq_right (by omega), Nat.sub_self, List.take_zero, List.drop_eq_nil_of_le (by omega)]
/-- data whose parts are laid and not deep -/
theorem laid_all {n : Nat} : ∀ (ds : List PyData), (∀ d ∈ ds, d.canLay0 = true ∧ d.depth ≤ n) → PyData.canLayAll0 ds = true ∧ PyData.depthAll ds ≤ n
  | [], _ => by simp [PyData.canLayAll0, PyData.depthAll]
  | d :: r, h => by
    obtain ⟨h1, h2⟩ := laid_all r fun x hx => h x (List.mem_cons_of_mem _ hx)
    obtain ⟨g1, g2⟩ := h d (by simp)
    simp only [PyData.canLayAll0, PyData.depthAll, g1, h1, Bool.and_self, true_and]
    omega
theorem sh_lst {ds : List PyData} (n : Nat) (hn : n ≤ 60) (h : ∀ d ∈ ds, d.canLay0 = true ∧ d.depth ≤ n) : SeqAt.shaped (.list ds) = true := by
  obtain ⟨h1, h2⟩ := laid_all ds h
  unfold SeqAt.shaped
  simp only [PyData.canLay0, h1, PyData.depth, Bool.true_and]
  exact decide_eq_true (by omega)
theorem sh_tup {ds : List PyData} (n : Nat) (hn : n ≤ 60) (h : ∀ d ∈ ds, d.canLay0 = true ∧ d.depth ≤ n) : SeqAt.shaped (.tuple ds) = true := by
  obtain ⟨h1, h2⟩ := laid_all ds h
  unfold SeqAt.shaped
  simp only [PyData.canLay0, h1, PyData.depth, Bool.true_and]
  exact decide_eq_true (by omega)
theorem laid_int (i : Int) : PyData.canLay0 (.int i) = true ∧ PyData.depth (.int i) ≤ 0 := by simp [PyData.canLay0, PyData.depth]
theorem sh_ints {α : Type} (f : α → Int) (xs : List α) : SeqAt.shaped (.list (xs.map fun x => .int (f x))) = true := sh_lst 0 (by decide) fun d hd => by
  obtain ⟨x, _, rfl⟩ := List.mem_map.mp hd
  exact laid_int _
theorem eqv_nil (ds : List PyData) : PyData.eqv (.list ds) (.list []) = ds.isEmpty := by
  cases ds with
  | nil => decide +kernel
  | cons d r => simp [PyData.eqv, PyData.eqvAll]
theorem sh_nil : SeqAt.shaped (.list []) = true := by decide +kernel
theorem neq_nil {x : Res} {ds : List PyData} (h : x.data = some (.list ds)) (hs : SeqAt.shaped (.list ds) = true) (g : k (.dat (.bool (!ds.isEmpty)))) : NeQ x (.fresh []) k := by
  refine neq_g h rfl hs sh_nil ?_
  rw [eqv_nil]
  exact g
theorem eqq_nil {x : Res} {ds : List PyData} (h : x.data = some (.list ds)) (hs : SeqAt.shaped (.list ds) = true) (g : k (.dat (.bool ds.isEmpty))) : EqQ x (.fresh []) k := by
  refine eqq_g h rfl hs sh_nil ?_
  rw [eqv_nil]
  exact g
end
end Dl

/-! own layer: a word times a number -/
namespace Dl
open PySem PySem.Spec L2 PyProof.Rows
def repS (a : Str) (n : Int) : Str := ⟨(List.replicate n.toNat a.cps).foldl (· ++ ·) #[]⟩
theorem repS_size (c : Array Nat) : ∀ (n : Nat) (acc : Array Nat), ((List.replicate n c).foldl (· ++ ·) acc).size = acc.size + n * c.size
  | 0, acc => by simp
  | n + 1, acc => by
    rw [List.replicate_succ, List.foldl_cons, repS_size c n, Array.size_append, Nat.add_mul]
    omega
def rMulS : R2 := fun x y H Q => ∃ (a : Str) (n : Int), x = .str a ∧ y = .int n ∧ 2 ≤ n ∧ n ≤ 1000 ∧ 0 < a.length ∧ a.length ≤ 1000 ∧ Q (.str (repS a n)) H
theorem op_mulS {X : Cx} : OpR X (binaryOp .Mult) rMulS := by
  intro pins s σ H x y v u Q I rx ry h
  obtain ⟨a, n, rfl, rfl, h1, h2, h3, h4, q⟩ := h
  obtain ⟨t, rfl⟩ := rx
  obtain ⟨t', rfl⟩ := ry
  have hne : (n == 1 || a.length == 0) = false := by
    rw [Bool.or_eq_false_iff]
    exact ⟨beq_eq_false_iff_ne.mpr (by omega), beq_eq_false_iff_ne.mpr (by omega)⟩
  refine P.mul_str (by rw [decide_eq_false (by omega), decide_eq_false (by omega)]; rfl) (fun _ _ => ?_) (fun _ _ => ?_) ?_
  · have : (1000 : Int) ≤ (2 ^ 63 - 1) / n := by
      refine (Int.le_ediv_iff_mul_le (by omega)).mpr ?_
      omega
    omega
  · unfold Builtin.Str.tooLong
    refine decide_eq_false ?_
    have := Nat.mul_le_mul h4 (show n.toNat ≤ 1000 by omega)
    have e : sizeLine = 16777216 := by decide
    omega
  · rw [if_neg (by omega), if_neg (by rw [hne]; exact Bool.false_ne_true)]
    refine ⟨?_, ⟨.str (repS a n), H, I.tok _, ⟨_, rfl⟩, q⟩⟩
    have := Nat.mul_le_mul (show n.toNat ≤ 1000 by omega) h4
    have e : sizeLine = 16777216 := by decide
    show (List.foldl _ #[] (List.replicate n.toNat a.cps)).size ≤ sizeLine
    rw [repS_size, Array.size_empty]
    have hs : a.cps.size = a.length := rfl
    rw [hs]
    omega
section
variable {K : PySem.W.Frag} {k : Res → Prop}
def rMulC (K : PySem.W.Frag) : R2 := fun x y H Q => rMulB K x y H Q ∨ rMulS x y H Q
theorem qMulC {X : Cx} (K : PySem.W.Frag) (h : X.K = K := by rfl) : OpR X (binaryOp .Mult) (rMulC K) := by subst h; exact .or (qMulB X.K) op_mulS
inductive MulT : Res → Res → (Res → Prop) → Prop
  | r {x y : Res} {k : Res → Prop} : MulR x y k → MulT x y k
  | s {a : Str} {n : Int} {k : Res → Prop} : 2 ≤ n → n ≤ 1000 → 0 < a.length → a.length ≤ 1000 → k (.dat (.str (repS a n))) → MulT (.dat (.str a)) (.dat (.int n)) k
theorem opMulC : OpOk K (rMulC K) MulT := by
  intro B H H1 x y rx ry k Q e0 e1 ox oy p q
  cases p with
  | r p => exact .inl (opMulB B H H1 x y rx ry k Q e0 e1 ox oy p q)
  | s h1 h2 h3 h4 g =>
    cases ox; cases oy
    exact .inr ⟨_, _, rfl, rfl, h1, h2, h3, h4, q _ _ _ (Same.refl _) (rIm (.str _)) g⟩
theorem mult_l {i j : Int} (h1 : -(2 ^ 64) < i) (h2 : i < 2 ^ 64) (g : k (.dat (.int (i * j)))) : MulT (.dat (.int i)) (.dat (.int j)) k := .r (mulr_l h1 h2 g)
theorem mult_r {i j : Int} (h1 : -(2 ^ 64) < j) (h2 : j < 2 ^ 64) (g : k (.dat (.int (i * j)))) : MulT (.dat (.int i)) (.dat (.int j)) k := .r (mulr_r h1 h2 g)
theorem mult_w {i j : Int} (h : CMulW i j) (g : k (.dat (.int (i * j)))) : MulT (.dat (.int i)) (.dat (.int j)) k := .r (mulr_w h g)
theorem mult_lst {x : Res} {ds : List PyData} {n : Int} (h1 : x.mine = some ds) (h2 : -(2 ^ 63) ≤ n) (h3 : n < 2 ^ 63) (h4 : ds.length * n.toNat ≤ sizeLine) (g : k (.fresh (List.replicate n.toNat ds).flatten)) : MulT x (.dat (.int n)) k := .r (mulr_lst h1 h2 h3 h4 g)
theorem mult_tup {ds : List PyData} {n : Int} (h1 : 0 < n) (h2 : n ≤ 1000) (h3 : ds.length ≤ 1000) (g : k (.dat (.tuple (List.replicate n.toNat ds).flatten))) : MulT (.dat (.tuple ds)) (.dat (.int n)) k := .r (mulr_tup h1 h2 h3 g)
end
end Dl

/-! own layer: sorted of pairs, min of tuples of ints, a star in a display, list(range(n)) -/
namespace Dl
open PySem PySem.Spec L2 PyProof.Rows
/-! ### sorted(xs), xs pairs of ints -/
section
variable {K : PySem.W.Frag}
def rSortedQ (K : PySem.W.Frag) : List V → Hp → VK → Prop := fun vs H Q => ∃ (a : Addr) (ks : List (Addr × List Int)), vs = [V.ref a] ∧ SqL K H a (ks.map fun p => V.ref p.1) ∧ (∀ p ∈ ks, p.2.length = 2 ∧ SqT K H p.1 (p.2.map V.int)) ∧
  ∀ (L : List (Addr × List Int)) (q : Addr), L.Perm ks → L.Pairwise (fun x y => HT.lexLt y.2 x.2 = false) → H q = none → Q (.ref q) (upd H q (.lst (L.map fun p => V.ref p.1)))
def prOf (l : List Int) : Int × Int := (l.getD 0 0, l.getD 1 0)
theorem lex_pr : ∀ {a b : List Int}, a.length = 2 → b.length = 2 → SrtO.lexB (prOf a) (prOf b) = HT.lexLt a b
  | [a, b], [c, d], _, _ => by
    show SrtO.lexB (a, b) (c, d) = _
    rw [HT.lexLt_cons, HT.lexLt_cons, HT.lexLt_nil_nil]
    unfold SrtO.lexB
    dsimp only
    by_cases e : a = c
    · rw [if_pos e, if_pos e]
      by_cases e2 : b = d
      · rw [if_pos e2]
        exact decide_eq_false (by omega)
      · rw [if_neg e2]
    · rw [if_neg e, if_neg e]
theorem tupInts_at {X : Cx} {pins : List (Addr × Obj)} {σ : L2.St} {H : Hp} {s : Shared} (I : Inv X pins σ H s) {t : Addr} {c : List Int} (h : SqT X.K H t (c.map V.int)) : TS.TupInts s.heap (.ref t) c := by
  obtain ⟨its, r, p, _⟩ := I.tuple h
  exact ⟨t, its.toArray, rfl, p, intsAre_of r⟩
theorem cr_sortedQ {X : Cx} : CallR X (.builtin "sorted") (rSortedQ X.K) := by
  intro pins s σ H vs us Q I r h
  obtain ⟨a, ks, rfl, hs, hk, q⟩ := h
  obtain ⟨its, rv, hl, hz⟩ := I.list hs
  obtain ⟨u, rfl, ru⟩ := vals1 r
  obtain rfl : u = Value.ref a := ru
  have ei : its = ks.map fun p => Value.ref p.1 := refs_of_vals rv
  have at_ : ∀ p ∈ ks, TS.intsOf s.heap (.ref p.1) = p.2 := fun p hp => (tupInts_at I (hk p hp).2).ints
  refine SrtO.sorted_pairsO (k := fun u => prOf (TS.intsOf s.heap u)) hl.isList (by rw [← rv.length]; exact hz) (fun v hv => ?_) fun h' d out h1 h2 kp hd hn => ?_
  · rw [ei] at hv
    obtain ⟨p, hp, rfl⟩ := List.mem_map.mp hv
    obtain ⟨hl2, ht⟩ := hk p hp
    rw [at_ p hp]
    obtain ⟨its2, r2, ⟨o, ho, hc, n, hd⟩, _⟩ := I.tuple ht
    obtain ⟨t, c⟩ := p
    match c, hl2, r2 with
    | [i, j], _, r2 =>
      obtain ⟨u1, u2, rfl, ri, rj⟩ := vals2 r2
      obtain ⟨t1, rfl⟩ := ri
      obtain ⟨t2, rfl⟩ := rj
      exact ⟨t, o, t1, t2, n, rfl, ho, hc, hd⟩
  · obtain ⟨n, hn⟩ := hn
    have hm : ∀ u ∈ out, ∃ p ∈ ks, u = Value.ref p.1 := fun u hu => by
      have := h2.perm.mem_iff.mp hu
      rw [ei] at this
      obtain ⟨p, hp, rfl⟩ := List.mem_map.mp this
      exact ⟨p, hp, rfl⟩
    have back : ∀ us : List Value, (∀ u ∈ us, ∃ p ∈ ks, u = Value.ref p.1) → ∃ L : List (Addr × List Int), us = L.map (fun p => Value.ref p.1) ∧ L = us.map (fun u => (match u with | .ref a => a | _ => 0, TS.intsOf s.heap u)) := by
      intro us
      induction us with
      | nil => exact fun _ => ⟨[], rfl, rfl⟩
      | cons u us ih =>
        intro h
        obtain ⟨p, hp, rfl⟩ := h u (by simp)
        obtain ⟨L, e1, e2⟩ := ih fun x hx => h x (List.mem_cons_of_mem _ hx)
        exact ⟨(p.1, TS.intsOf s.heap (.ref p.1)) :: L, by rw [List.map_cons, ← e1], by rw [List.map_cons, ← e2]⟩
    obtain ⟨L, e1, e2⟩ := back out hm
    have pm : L.Perm ks := by
      have e3 : ks = its.map (fun u => (match u with | .ref a => a | _ => 0, TS.intsOf s.heap u)) := by
        rw [ei, List.map_map]
        refine (List.map_id ks).symm.trans (List.map_congr_left fun p hp => ?_)
        show p = (p.1, TS.intsOf s.heap (.ref p.1))
        rw [at_ p hp]
      rw [e2, e3]
      exact h2.perm.map _
    have hv : Vals (L.map fun p => V.ref p.1) out := by
      rw [e1]
      exact vals_of_refs L
    refine ⟨.ref d, upd H d (.lst (L.map fun p => V.ref p.1)), I.laid (t' := s.toks) kp hd ⟨?_, out, n, hv, hn⟩, rfl, q L d pm ?_ (I.hok.fresh hd)⟩
    · rw [List.length_map, pm.length_eq]
      have := hz
      rw [List.length_map] at this
      exact this
    · have h3 : (L.map fun p => Value.ref p.1).Pairwise (fun x y => SrtO.lexB (prOf (TS.intsOf s.heap y)) (prOf (TS.intsOf s.heap x)) = false) := by
        rw [← e1]
        exact h1
      refine List.Pairwise.imp_of_mem (fun {x y} hx hy h => ?_) (List.pairwise_map.mp h3)
      have hx' := pm.mem_iff.mp hx
      have hy' := pm.mem_iff.mp hy
      rw [at_ x hx', at_ y hy', lex_pr (hk y hy').1 (hk x hx').1] at h
      exact h
def rSortedA (K : PySem.W.Frag) : List V → Hp → VK → Prop := fun vs H Q => rSortedI K vs H Q ∨ rSortedQ K vs H Q
theorem qSortedA {X : Cx} (K : PySem.W.Frag) (h : X.K = K := by rfl) : CallR X (.builtin "sorted") (rSortedA K) := by
  subst h
  intro pins s σ H vs us Q I r h
  rcases h with h | h
  · exact cr_sortedI pins s σ H vs us Q I r h
  · exact cr_sortedQ pins s σ H vs us Q I r h
inductive SortA : List Res → (Res → Prop) → Prop
  | i {rs : List Res} {k : Res → Prop} : SortP rs k → SortA rs k
  | q {x : Res} {cs : List (List Int)} {k : Res → Prop} : x.items = some (cs.map tupD) → (∀ c ∈ cs, c.length = 2) → (∀ ms : List (List Int), ms.Perm cs → ms.Pairwise (fun x y => HT.lexLt y x = false) → k (.fresh (ms.map tupD))) → SortA [x] k
theorem cbSortedA : CbOk K (rSortedA K) SortA := by
  intro B H H1 vs rs k Q e0 e1 o p q
  cases p with
  | i p => exact .inl (cbSorted B H H1 vs rs k Q e0 e1 o p q)
  | q hx h2 g =>
    cases o with
    | cons o1 o2 =>
      cases o2
      obtain ⟨a, xs, rfl, h1, im⟩ := o1.list (e0.trans e1) hx
      obtain ⟨ks, e3, e4, e5⟩ := im_tups xs _ im
      rw [e3] at h1
      refine .inr ⟨a, ks, rfl, h1, fun p hp => ⟨h2 _ (by rw [← e4]; exact List.mem_map_of_mem hp), e5 p hp⟩, fun L l pm hw hl => ?_⟩
      exact q _ _ _ (same_new hl) (rFreshN e1 hl (ds := (L.map (·.2)).map tupD) (tups_im L fun p hp => e5 p (pm.mem_iff.mp hp))) (g _ (by rw [← e4]; exact pm.map _) (List.pairwise_map.mpr hw))
end

/-! ### a star in a display -/
section
variable {K : PySem.W.Frag} {δ : List Slot} {te : TE}
theorem qStar {X : Cx} {e : Expr} {es : List Expr} {te : TE} {t : TA} {p : Pos} (K : PySem.W.Frag) (he : PE X e te) (hr : PA X es t) (h : X.K = K := by rfl) (hs : starEach (.Starred e p :: es) X.env = (true, eval e X.env) :: starEach es X.env := by rfl) :
    PA X (.Starred e p :: es) (StX.tStar K te t) := by subst h; exact StX.pa_star he hr hs
theorem args_app {B H H' : Hp} {vs ws : List V} {ds : List PyData} {rs : List Res} (h : ImAll K H' vs ds) (g : ArgsOk K B H H' ws rs) : ArgsOk K B H H' (vs ++ ws) (ds.map Res.dat ++ rs) := by
  induction ds generalizing vs with
  | nil => cases h; exact g
  | cons d ds ih =>
    cases h with
    | cons h1 h2 => exact .cons h1 (ih h2)
theorem ea_star {tr : TA} {k : List Res → Prop} (g : EvC K te δ fun x => ∃ ds, (x.items = some ds ∨ x = .dat (.tuple ds)) ∧ EvA K tr δ fun xs => k (ds.map Res.dat ++ xs)) : EvA K (StX.tStar K te tr) δ k := by
  intro B H σ R Q q
  refine g B H σ R _ fun x H1 rx e1 o1 ⟨ds, hd, g1⟩ => ?_
  obtain ⟨p, vs, rfl, hq, im⟩ : ∃ p vs, x = V.ref p ∧ (SqT K H1 p vs ∨ SqL K H1 p vs) ∧ ImAll K H1 vs ds := by
    rcases hd with hd | rfl
    · obtain ⟨p, vs, e, a, b⟩ := o1.list (R.same.trans e1) hd
      exact ⟨p, vs, e, .inr a, b⟩
    · cases o1 with
      | tup a b => exact ⟨_, _, rfl, .inl a, b⟩
  refine ⟨p, vs, rfl, hq, g1 B H1 σ (R.grow e1) _ fun ws H2 rs e2 o2 kx => ?_⟩
  exact q _ _ _ (e1.trans e2) (args_app (im.to (per_same e2)) (o2.from_ e1)) kx
theorem dats_app (ds : List PyData) : dats (ds.map Res.dat ++ []) = some ds := by
  induction ds with
  | nil => rfl
  | cons d ds ih =>
    show (dats (ds.map Res.dat ++ [])).map (d :: ·) = _
    rw [ih]
    rfl

/-! ### list(range(n)) -/
theorem qListRg {X : Cx} {e : Expr} {tr : L2.St → Hp → (Int → Int → Hp → Prop) → Prop} {p pos : Pos} (hm : X.mg "list" = none) (he : PRg X e tr) (hc : X.calm = true := by rfl) (hg : Gl X "list" := by rfl) (na : starEach [e] X.env = (false, eval e X.env) :: starEach [] X.env := by rfl) :
    PE X (.Call (.Name "list" p) [e] [] pos) (tLstRg tr) := pe_listRg hc hg hm he na
theorem qRg1 {X : Cx} {a : Expr} {ta : TE} {p pos : Pos} (hm : X.mg "range" = none) (ha : PE X a ta) (hg : Gl X "range" := by rfl) (na : starEach [a] X.env = (false, eval a X.env) :: starEach [] X.env := by rfl) : PRg X (.Call (.Name "range" p) [a] [] pos) (tRg1 ta) := prg_1 hg hm ha na
theorem rgV_ints (n : Int) : ∃ vs : List V, rgV 0 n = vs ∧ ∀ (H : Hp), ImAll K H vs ((List.range n.toNat).map fun i : Nat => .int (i : Nat)) := by
  refine ⟨_, rfl, fun H => ?_⟩
  have e : rgV 0 n = ((List.range n.toNat).map fun i : Nat => ((i : Nat) : Int)).map V.int := by
    unfold rgV
    rw [Int.sub_zero, List.map_map]
    refine List.map_congr_left fun i _ => ?_
    show V.int (0 + ((i : Nat) : Int)) = V.int ((i : Nat) : Int)
    rw [Int.zero_add]
  have e2 : ((List.range n.toNat).map fun i : Nat => PyData.int (i : Nat)) = ((List.range n.toNat).map fun i : Nat => ((i : Nat) : Int)).map PyData.int := by
    rw [List.map_map]
    rfl
  rw [e, e2]
  exact ImAll.ints _
theorem ec_listRg {k : Res → Prop} (h : EvC K te δ fun x => ∃ n : Int, x = .dat (.int n) ∧ 0 ≤ n ∧ n ≤ 1000000 ∧ k (.fresh ((List.range n.toNat).map fun i : Nat => .int (i : Nat)))) : EvC K (tLstRg (tRg1 te)) δ k := by
  intro B H σ R Q q
  refine h B H σ R _ fun v H1 x e o ⟨n, hx, h0, h1, kx⟩ => ?_
  subst hx
  cases o
  refine ⟨n, rfl, ⟨by omega, by omega, by omega, by omega, by omega⟩, fun l hl => ?_⟩
  obtain ⟨vs, e2, im⟩ := rgV_ints (K := K) n
  rw [e2]
  exact q _ _ _ (e.trans (same_new hl)) (rFreshN e hl (im H1)) kx
end
end Dl

/-! own layer: min of tuples of ints; t.index of a tuple just made -/
namespace Dl
open PySem PySem.Spec L2 PyProof.Rows
/-! ### the order of lists of ints -/
theorem lex_irr : ∀ a : List Int, HT.lexLt a a = false
  | [] => rfl
  | x :: r => by rw [HT.lexLt_cons, if_pos rfl]; exact lex_irr r
theorem lex_tr : ∀ {a b c : List Int}, HT.lexLt a b = true → HT.lexLt b c = true → HT.lexLt a c = true
  | [], [], _, h, _ => Bool.noConfusion h
  | [], _ :: _, [], _, h => Bool.noConfusion h
  | [], _ :: _, _ :: _, _, _ => rfl
  | _ :: _, [], _, h, _ => Bool.noConfusion h
  | _ :: _, _ :: _, [], _, h => Bool.noConfusion h
  | x :: a, y :: b, z :: c, h1, h2 => by
    rw [HT.lexLt_cons] at h1 h2 ⊢
    by_cases e1 : x = y
    · rw [if_pos e1] at h1
      by_cases e2 : y = z
      · rw [if_pos e2] at h2
        rw [if_pos (e1.trans e2)]
        exact lex_tr h1 h2
      · rw [if_neg e2] at h2
        rw [if_neg (by omega)]
        have := of_decide_eq_true h2
        exact decide_eq_true (by omega)
    · rw [if_neg e1] at h1
      have q1 := of_decide_eq_true h1
      by_cases e2 : y = z
      · rw [if_neg (by omega)]
        exact decide_eq_true (by omega)
      · rw [if_neg e2] at h2
        have q2 := of_decide_eq_true h2
        rw [if_neg (by omega)]
        exact decide_eq_true (by omega)
def btL (f : Nat → List Int) (i j : Nat) : Bool := HT.lexLt (f i) (f j)
theorem best_lex (f : Nat → List Int) : ∀ k, argBest (btL f) k ≤ k ∧ ∀ j, j ≤ k → HT.lexLt (f j) (f (argBest (btL f) k)) = false
  | 0 => ⟨Nat.le_refl _, fun j hj => by
    obtain rfl : j = 0 := by omega
    exact lex_irr _⟩
  | k + 1 => by
    obtain ⟨h1, h2⟩ := best_lex f k
    unfold argBest
    by_cases hb : btL f (k + 1) (argBest (btL f) k) = true
    · rw [if_pos hb]
      refine ⟨Nat.le_refl _, fun j hj => ?_⟩
      by_cases e : j = k + 1
      · rw [e]
        exact lex_irr _
      · cases hz : HT.lexLt (f j) (f (k + 1)) with
        | false => rfl
        | true => exact absurd (lex_tr hz hb) (by rw [h2 j (by omega)]; exact Bool.false_ne_true)
    · rw [if_neg hb]
      refine ⟨by omega, fun j hj => ?_⟩
      by_cases e : j = k + 1
      · rw [e]
        exact Bool.eq_false_iff.mpr hb
      · exact h2 j (by omega)
/-! ### the walk of min, the items on a heap -/
section
variable {prog : Program} {w : World} {A : Around} {R : Result → Shared → Prop} {E : Value → Shared → Prop} {I S : Addr} {fp wr : List Addr} {n : Nat} {P : Nat → Value → Prop} {St : Nat → Heap → Prop} {g : Heap} {bt : Nat → Nat → Bool}
def Old (wr : List Addr) (g h : Heap) : Prop := ∀ b o, b ∉ wr → g.get? b = some o → h.get? b = some o
def MinAt (prog : Program) (w : World) (A : Around) (wr : List Addr) (g : Heap) (P : Nat → Value → Prop) (bt : Nat → Nat → Bool) : Prop :=
  ∀ i j u v (s : Shared) (Q E : Value → Shared → Prop), Old wr g s.heap → P i u → P j v → Q (.bool (bt i j)) s → wpAny (model prog w) A (richCompare .Lt u v) Q E s
theorem min_ne {b : Addr} {o : Obj} (h : ∀ x, g.get? S ≠ some x) (e : g.get? b = some o) : b ≠ S := fun z => h o (z ▸ e)
theorem minT_loop (W : Walks prog w A.in1 I fp wr n P St) (cmp : MinAt prog w A.in1 wr g P bt) (hSf : S ∉ fp) (hSg : ∀ x, g.get? S ≠ some x) :
    ∀ (m j : Nat) (s : Shared) (best : Value) (c : Nat), n - (j + 1) = m → j + 1 ≤ n → St (j + 1) s.heap → Old wr g s.heap → P (argBest bt j) best → s.heap.get? S = some (lstObj #[best, best] c) →
      (∀ v h' tk, P (argBest bt (n - 1)) v → Old wr g h' → R (.ok (.ret v)) { s with heap := h', toks := tk }) → codeAny (model prog w) A (.builtin "min.loop" ⟨[.ref I, .none, .ref S], []⟩) R s := by
  have nwr : S ∉ wr := fun z => hSf (W.sub _ z)
  have nm : (toString "min" ++ toString ".loop" : String) = "min.loop" := by decide
  have put : ∀ {h : Heap} {f : Obj → Obj}, Old wr g h → Old wr g (h.update S f) := fun o b x hb e => (Heap.get?_update_other _ _ (Ne.symm (min_ne hSg e))).trans (o b x hb e)
  intro m
  induction m with
  | zero =>
    intro j s best c e1 e2 st old pb hS done
    obtain rfl : j + 1 = n := by omega
    refine codeAny_builtin F.entry_min_loop ?_
    rw [Around.under_plainId F.plain_min_loop _]
    refine wpAny_bind (m := seqItems? (.ref S)) (wpAny_seqItems hS rfl ?_)
    refine wpAny_bind (m := tryCatch (pyNext (.ref I)) _) (wpAny_tryCatch (W.done s _ _ st fun h' tk kp => ?_))
    refine wpAny_bind (m := updateSeq S (fun _ => #[])) (wpAny_updateSeq (kp S _ nwr hS) rfl (wpAny_bind (wpAny_letGo (wpAny_pure (done best _ tk pb (put fun b o hb e => kp b o hb (old b o hb e)))))))
  | succ m ih =>
    intro j s best c e1 e2 st old pb hS done
    have lt : j + 1 < n := by omega
    refine codeAny_builtin F.entry_min_loop ?_
    rw [Around.under_plainId F.plain_min_loop _]
    refine wpAny_bind (m := seqItems? (.ref S)) (wpAny_seqItems hS rfl ?_)
    refine wpAny_bind (m := tryCatch (pyNext (.ref I)) _) (wpAny_tryCatch (W.item (j + 1) s _ _ lt st fun v h' tk pv st' kp => ?_))
    have hS' := kp S _ nwr hS
    have old' : Old wr g h' := fun b o hb e => kp b o hb (old b o hb e)
    refine wpAny_bind (m := tryCatch (holding [v, v] (richCompare .Lt v best >>= _)) _) (wpAny_tryCatch (wpAny_holding (wpAny_bind (cmp (j + 1) (argBest bt j) v best _ _ _ old' pv pb (wpAny_bind (wpAny_holding (wpAny_truthy_bool (wpAny_bind (wpAny_letGo (wpAny_pure ?_))))))))))
    cases hb : bt (j + 1) (argBest bt j) with
    | true =>
      simp only [if_true]
      refine wpAny_bind (wpAny_updateSeq hS' rfl (wpAny_bind (wpAny_letGo ?_)))
      rw [nm]
      exact wpAny_pure ⟨plainId_quiet F.plain_min_loop _, ih (j + 1) _ v _ (by omega) lt (W.frame _ _ _ st' fun b hbf o e => (Heap.get?_update_other _ _ (fun z : S = b => hSf (z ▸ hbf))).trans e) (put old') (by simp only [argBest, hb, if_true]; exact pv)
        (Heap.get?_update_self _ hS' rfl) fun v2 h2 tk2 p2 o2 => done v2 h2 tk2 p2 o2⟩
    | false =>
      simp only [Bool.false_eq_true, if_false]
      refine wpAny_bind (wpAny_letGo ?_)
      rw [nm]
      exact wpAny_pure ⟨plainId_quiet F.plain_min_loop _, ih (j + 1) _ best c (by omega) lt st' old' (by simp only [argBest, hb, Bool.false_eq_true, if_false]; exact pb) hS' fun v2 h2 tk2 p2 o2 => done v2 h2 tk2 p2 o2⟩
theorem minT_first (W : Walks prog w A.in1 I fp wr n P St) (cmp : MinAt prog w A.in1 wr g P bt) (hSf : S ∉ fp) (hSg : ∀ x, g.get? S ≠ some x) (hn : 0 < n) {s : Shared} {c : Nat} (st : St 0 s.heap) (old : Old wr g s.heap) (hS : s.heap.get? S = some (lstObj #[] c))
    (done : ∀ v h' tk, P (argBest bt (n - 1)) v → Old wr g h' → R (.ok (.ret v)) { s with heap := h', toks := tk }) : codeAny (model prog w) A (.builtin "min.loop" ⟨[.ref I, .none, .ref S], []⟩) R s := by
  have nwr : S ∉ wr := fun z => hSf (W.sub _ z)
  have nm : (toString "min" ++ toString ".loop" : String) = "min.loop" := by decide
  refine codeAny_builtin F.entry_min_loop ?_
  rw [Around.under_plainId F.plain_min_loop _]
  refine wpAny_bind (m := seqItems? (.ref S)) (wpAny_seqItems hS rfl ?_)
  refine wpAny_bind (m := tryCatch (pyNext (.ref I)) _) (wpAny_tryCatch (W.item 0 s _ _ hn st fun v h' tk pv st' kp => ?_))
  have hS' := kp S _ nwr hS
  refine wpAny_bind (m := updateSeq S (fun _ => #[v, v])) (wpAny_updateSeq hS' rfl ?_)
  rw [nm]
  exact wpAny_pure ⟨plainId_quiet F.plain_min_loop _, minT_loop W cmp hSf hSg _ 0 _ v _ rfl hn (W.frame _ _ _ st' fun b hbf o e => (Heap.get?_update_other _ _ (fun z : S = b => hSf (z ▸ hbf))).trans e)
    (fun b o hb e => (Heap.get?_update_other _ _ (Ne.symm (min_ne hSg e))).trans (kp b o hb (old b o hb e))) pv (Heap.get?_update_self _ hS' rfl) fun v2 h2 tk2 p2 o2 => done v2 h2 tk2 p2 o2⟩
theorem minT_list {s : Shared} {l : Addr} {its : Array Value} {Q : Value → Shared → Prop} (hh : A.handled = none) (hl : s.heap.IsList l its) (hn : 0 < its.size) (hu : A.in1.units < cLine) (f : Nat → List Int) (hf : ∀ i v, its[i]? = some v → TS.TupInts s.heap v (f i))
    (done : ∀ v h' tk, its[argBest (btL f) (its.size - 1)]? = some v → (∀ b o, s.heap.get? b = some o → h'.get? b = some o) → Q v { s with heap := h', toks := tk }) : wpAny (model prog w) A (call (.builtin "min") [.ref l]) Q E s := by
  have nm : (toString "min" ++ toString ".loop" : String) = "min.loop" := by decide
  have lsz : l < s.heap.objs.size := by obtain ⟨_, e, _⟩ := hl; exact Heap.lt_size e
  refine call_function_tree F.kind_min F.plain_min F.entry_min (F.args_min1 _) ?_
  refine wpAny_bind (m := Builtin.Builtins.bindParams "min" ["key", "default"] 0 ⟨[], []⟩) (wpAny_of_eq (show Builtin.Builtins.bindParams "min" ["key", "default"] 0 ⟨[], []⟩ = pure [none, none] from rfl) ?_)
  refine wpAny_bind (wpAny_pure (wpAny_bind (wpAny_pyIter_list hl (wpAny_bind (wpAny_newObj_type ?_)))))
  rw [nm]
  have e1 : (s.heap.push ({ cls := .type "list_iterator", data := .fields #[.ref l, .int 0 0] } : Obj)).objs.size = s.heap.objs.size + 1 := Heap.size_push ..
  refine wpAny_pure ⟨plainId_quiet F.plain_min_loop _, minT_first (g := s.heap) (Walks.list (A := A.in1) hh s.heap.objs.size l (Nat.ne_of_lt lsz) its) (bt := btL f) (fun i j u v s2 Q2 E2 old pu pv q => ?_) ?_ ?_ hn ⟨⟨({ cls := .type "list_iterator", data := .fields #[.ref l, .int 0 0] } : Obj), ?_, rfl, rfl⟩, ?_⟩ ?_ (Heap.get?_push_size _ rfl) fun v h' tk pv old => ?_⟩
  · have kp : ∀ b o, s.heap.get? b = some o → o.cls = .type "tuple" → s2.heap.get? b = some o := fun b o e _ => old b o (fun z => Nat.ne_of_lt (Heap.lt_size e) (List.mem_singleton.mp z)) e
    obtain ⟨a, xs, rfl, h1, h2⟩ := (hf i u pu).keeps kp
    obtain ⟨b, ys, rfl, h3, h4⟩ := (hf j v pv).keeps kp
    exact HT.lt_tupInts h1 h3 h2 h4 hu q
  · rw [e1]
    intro z
    simp only [List.mem_cons, List.not_mem_nil, or_false] at z
    rcases z with z | z
    · exact Nat.succ_ne_self _ (show s.heap.objs.size + 1 = s.heap.objs.size from z)
    · have z2 : s.heap.objs.size + 1 = l := z
      exact Nat.lt_asymm lsz (z2 ▸ Nat.lt_succ_self s.heap.objs.size)
  · intro x e
    have z : s.heap.objs.size + 1 < s.heap.objs.size := by
      have := Heap.lt_size e
      rw [e1] at this
      exact this
    omega
  · exact Heap.get?_push_of_some _ (Heap.get?_push_size _ rfl)
  · exact (hl.push _).push _
  · exact fun b o _ e => Heap.get?_push_of_some _ (Heap.get?_push_of_some _ e)
  · exact done v h' tk pv fun b o e => old b o (fun z => Nat.ne_of_lt (Heap.lt_size e) (List.mem_singleton.mp z)) e
end
section
variable {K : PySem.W.Frag} {δ : List Slot} {te : TE}
def rMinT (K : PySem.W.Frag) : List V → Hp → VK → Prop := fun vs H Q => ∃ (a : Addr) (ks : List (Addr × List Int)), vs = [V.ref a] ∧ SqL K H a (ks.map fun p => V.ref p.1) ∧ (∀ p ∈ ks, SqT K H p.1 (p.2.map V.int)) ∧ 0 < ks.length ∧ ∀ p ∈ ks, (∀ r ∈ ks, HT.lexLt r.2 p.2 = false) → Q (.ref p.1) H
theorem cr_minT {X : Cx} (hc : X.calm = true) (hu : X.A.units + 64 < cLine) : CallR X (.builtin "min") (rMinT X.K) := by
  intro pins s σ H vs us Q I r h
  obtain ⟨a, ks, rfl, hs, hk, hn, q⟩ := h
  obtain ⟨its, rv, hl, _⟩ := I.list hs
  rw [Vals.ref1 r]
  have ei : its = ks.map fun p => Value.ref p.1 := refs_of_vals rv
  have sz : its.toArray.size = ks.length := by rw [List.size_toArray, ei, List.length_map]
  have at_ : ∀ (i : Nat) (v : Value), its.toArray[i]? = some v → ∃ p, ks[i]? = some p ∧ p ∈ ks ∧ v = .ref p.1 := fun i v e => by
    rw [List.getElem?_toArray, ei, List.getElem?_map] at e
    obtain ⟨p, hp, rfl⟩ := Option.map_eq_some_iff.mp e
    exact ⟨p, hp, List.mem_of_getElem? hp, rfl⟩
  have ff : ∀ (i : Nat) (p : Addr × List Int), ks[i]? = some p → (ks.map (·.2)).getD i [] = p.2 := fun i p e => by rw [List.getD_eq_getElem?_getD, List.getElem?_map, e]; rfl
  refine minT_list (I.ok.hd hc) hl.isList (by rw [sz]; exact hn) (show X.A.units + 1 < cLine by omega) (fun i => (ks.map (·.2)).getD i []) (fun i v e => ?_) fun v h' tk e kp => ?_
  · obtain ⟨p, h1, h2, rfl⟩ := at_ i v e
    show TS.TupInts _ _ ((ks.map (·.2)).getD i [])
    rw [ff i p h1]
    exact tupInts_at I (hk p h2)
  · obtain ⟨p, h1, h2, rfl⟩ := at_ _ v e
    refine ⟨.ref p.1, H, I.kept kp, rfl, q p h2 fun r hr => ?_⟩
    obtain ⟨j, hj⟩ := List.getElem?_of_mem hr
    have := (best_lex (fun i => (ks.map (·.2)).getD i []) (its.toArray.size - 1)).2 j (by
      have := (List.getElem?_eq_some_iff.mp hj).1
      omega)
    have e2 : HT.lexLt ((ks.map (·.2)).getD j []) ((ks.map (·.2)).getD (argBest (btL fun i => (ks.map (·.2)).getD i []) (its.toArray.size - 1)) []) = false := this
    rw [ff j r hj, ff _ p h1] at e2
    exact e2
def rMinA (K : PySem.W.Frag) : List V → Hp → VK → Prop := fun vs H Q => rMin K vs H Q ∨ rMinT K vs H Q
theorem qMinA {X : Cx} (K : PySem.W.Frag) (hu : X.A.units + 64 < cLine) (h : X.K = K := by rfl) (hc : X.calm = true := by rfl) : CallR X (.builtin "min") (rMinA K) := by
  subst h
  intro pins s σ H vs us Q I r h
  rcases h with h | h
  · exact cr_min hc pins s σ H vs us Q I r h
  · exact cr_minT hc hu pins s σ H vs us Q I r h
inductive MinA : List Res → (Res → Prop) → Prop
  | i {rs : List Res} {k : Res → Prop} : MinP rs k → MinA rs k
  | t {x : Res} {cs : List (List Int)} {k : Res → Prop} : x.items = some (cs.map tupD) → 0 < cs.length → (∀ c ∈ cs, (∀ y ∈ cs, HT.lexLt y c = false) → k (.dat (tupD c))) → MinA [x] k
theorem cbMinA : CbOk K (rMinA K) MinA := by
  intro B H H1 vs rs k Q e0 e1 o p q
  cases p with
  | i p => exact .inl (cbMin1 B H H1 vs rs k Q e0 e1 o p q)
  | t hx hn g =>
    cases o with
    | cons o1 o2 =>
      cases o2
      obtain ⟨a, xs, rfl, h1, im⟩ := o1.list (e0.trans e1) hx
      obtain ⟨ks, e3, e4, e5⟩ := im_tups xs _ im
      rw [e3] at h1
      refine .inr ⟨a, ks, rfl, h1, e5, by rw [← e4, List.length_map] at hn; exact hn, fun p hp hm => ?_⟩
      refine q _ _ _ (Same.refl _) (rTup (e5 p hp) (ImAll.ints p.2)) (g _ (by rw [← e4]; exact List.mem_map_of_mem hp) fun y hy => ?_)
      rw [← e4] at hy
      obtain ⟨r, hr, rfl⟩ := List.mem_map.mp hy
      exact hm r hr
/-! ### a tuple just made: it has no dict -/
def bTupleZ (K : PySem.W.Frag) : List V → Hp → VK → Prop := fun xs H Q => ∃ p ys, xs = [.ref p] ∧ SqL K H p ys ∧ ∀ l o, H l = none → o.dict = none → Q (.ref l) (upd H l (.frz o (.tup ys)))
theorem qTupleZ {X : Cx} (K : PySem.W.Frag) (h : X.K = K := by rfl) : CallR X (.type "tuple") (bTupleZ K) := by
  subst h
  intro pins s σ H xs us Q I r h
  obtain ⟨p, ys, rfl, hq, q⟩ := h
  obtain ⟨u, rfl, rx⟩ := vals1 r
  cases rx
  obtain ⟨its, r', pl, hz⟩ := I.list hq
  have hlen := r'.length
  refine call_tuple_list pl.isList (fun h' kp => ?_) (by simp only [List.size_toArray] <;> omega)
  have I1 : Inv X pins σ H { s with heap := h' } := I.kept (t' := s.toks) kp
  refine ⟨.ref h'.objs.size, _, I1.laid (t' := s.toks) (o := .frz _ (.tup ys)) (fun b o e => Heap.get?_push_of_some _ e) (Nat.le_refl _) ⟨Heap.get?_push_size _ rfl, hz, its, r', IsTup.new _ _⟩, rfl, q _ _ (I1.hok.fresh (Nat.le_refl _)) rfl⟩
/-- a def that gives a tuple it has just made -/
def spOfT (K : PySem.W.Frag) (sp : List Res → (List PyData → Prop) → Prop) : Sp := fun vs H Q _ => ∃ rs k, ArgsP K H vs rs ∧ sp rs k ∧ ∀ p us o ds H', Same H H' → H' p = some (.frz o (.tup us)) → o.dict = none → ImAll K H' us ds → k ds → Q (.ref p) H'
def tBMT (K : PySem.W.Frag) (r : V → List V → Hp → VK → Prop) (to : TE) (t : TA) : TE := fun σ H Q => to σ H fun x H1 => (∃ p xs o, x = V.ref p ∧ H1 p = some (.frz o (.tup xs)) ∧ o.dict = none) ∧ t σ H1 fun xs H2 => r x xs H2 Q
theorem pe_bmT {X : Cx} {o e : Expr} {es : List Expr} {to : TE} {t : TA} {name : Str} {apos cpos : Pos} {id : String} {r : V → List V → Hp → VK → Prop} (K : PySem.W.Frag) (pa : PlainAttrs "tuple") (slot : PySem.Slot "tuple" name id) (hty : typeOf (.builtin id) = pure (.type "method_descriptor")) (hm : MtR X id r) (ho : PE X o to) (ha : PA X (e :: es) t)
    (hK : X.K = K := by rfl) (hbase : attributeBase o name X.env (eval o X.env) = eval o X.env := by rfl)
    (hfew : ((backTo cpos (starEach (e :: es) X.env)).all (fun x => !x.1) && (backToKw cpos (keywordEach [] X.env)).all (fun x => x.1.isSome) && decide ((e :: es).length + ([] : List Keyword).length + (if ([] : List Keyword).isEmpty then 0 else 1) < 30)) = true := by rfl)
    (hline : (apos.endLine == cpos.line) = true := by rfl) (hs : starEach (e :: es) X.env = (false, eval e X.env) :: starEach es X.env := by rfl) (hplain : (backTo cpos (starEach es X.env)).any (·.1) = false := by rfl) : PE X (.Call (.Attribute o name apos) (e :: es) [] cpos) (tBMT K r to t) := by
  subst hK
  refine ⟨fun pins s σ H Q I h => ?_⟩
  refine wpAny_Call_method_late hbase hfew hline rfl (thn (ho.run pins s σ H _ I h) fun v s1 ⟨x, H1, I1, r1, ty, q1⟩ => ?_)
  obtain ⟨p, xs, ob, rfl, hp, hd⟩ := ty
  cases r1
  obtain ⟨g1, _, its, _, o2, g2, hc, _⟩ := I1.hok p _ hp
  refine ⟨"tuple", id, pa, slot, hty, ⟨o2, g2, hc⟩, fun a e => ?_, ?_⟩
  · cases e
    exact ⟨ob, g1, hd⟩
  have hA := ha.run cpos pins s1 σ H1 _ I1 q1
  rw [hs] at hA ⊢
  refine Calls.callWith_builtin (by show (false || (backTo cpos (starEach es X.env)).any (·.1)) = false; rw [hplain] <;> rfl) (Calls.evalArgs_plain ?_)
  exact thn hA fun us s2 ⟨vs, H2, I2, r2, q2⟩ => hm pins s2 σ H2 (V.ref p) vs (Value.ref p) us Q I2 (show RelV (V.ref p) (Value.ref p) from rfl) r2 q2
/-- t.index(x): the first place of an equal one -/
def rIdxT (K : PySem.W.Frag) : V → List V → Hp → VK → Prop := fun x xs H Q => ∃ (a : Addr) (y : V) (us : List V) (d : PyData) (ds : List PyData) (j : Nat) (z : PyData), x = V.ref a ∧ xs = [y] ∧ SqT K H a us ∧ DpAll K H us ds ∧ Dp K H y d ∧
  SeqAt.shaped (.tuple ds) = true ∧ SeqAt.shaped d = true ∧ ds[j]? = some z ∧ PyData.eqv z d = true ∧ (∀ (m : Nat) (z' : PyData), m < j → ds[m]? = some z' → PyData.eqv z' d = false) ∧ Q (.int (j : Nat)) H
theorem mt_idxT {X : Cx} (K : PySem.W.Frag) (hu : X.A.units + 65 < cLine) (hK : X.K = K := by rfl) : MtR X "tuple.index" (rIdxT K) := by
  subst hK
  intro pins s σ H x xs v us Q I rx rxs h
  obtain ⟨a, y, ws, d, ds, j, z, rfl, rfl, hq, hall, hy, sl, sd, hz, hzj, hno, q⟩ := h
  cases rx
  obtain ⟨uy, rfl, ry⟩ := vals1 rxs
  obtain ⟨bs, r1⟩ := Dp.reads I d y uy hy ry
  have lay : PyData.canLayAll0 ds = true := SeqAt.canLay_of_shaped sl
  have room : X.A.units + 1 + min (PyData.depthAll ds) d.depth < cLine := room_in_shaped sd hu
  obtain ⟨its, rv, ⟨⟨cls, dd, data, sls⟩, ho, hc, n, hdt⟩, hlen⟩ := I.tuple hq
  simp only at hc hdt
  subst hc hdt
  obtain ⟨as, h4⟩ := Dp.readsAll I ds _ its hall rv
  have hn : its.length = ds.length := SeqAt.ReadsAll.length ds its as h4
  have hmap : its.map (SeqAt.readOf s.heap) = ds := SeqAt.readsAll_map ds its as lay h4
  obtain ⟨hjd, _⟩ := List.getElem?_eq_some_iff.mp hz
  have hj : j < its.toArray.size := by
    rw [List.size_toArray]
    omega
  have at_ : ∀ (m : Nat) (hm : m < its.toArray.size), ds[m]? = some (SeqAt.readOf s.heap its.toArray[m]) := fun m hm => by
    have hml : m < its.length := by simpa using hm
    rw [← hmap, List.getElem?_map, List.getElem?_eq_getElem hml]
    simp
  refine call_meets PySem.F.slot_tuple_index ⟨_, ho, rfl⟩ PySem.F.entry_tuple_index (PySem.F.args_tuple_index_2 _ _) (TI.tuple_indexAt a its.toArray n dd sls uy (fun u => PyData.eqv (SeqAt.readOf s.heap u) d) j hj ?_ fun m hm hmj => hno m _ hmj (at_ m hm))
    ⟨ho, SeqAt.items_eqAt (vs := its.toArray) (show ReadsAll s.heap its.toArray.toList ds as from h4) r1 lay (SeqAt.canLay_of_shaped sd) room, ⟨.int (j : Nat), H, I.tok _, ⟨_, rfl⟩, q⟩⟩
  have := at_ j hj
  rw [hz] at this
  rw [← Option.some.inj this]
  exact hzj
end
end Dl

/-! own layer: ts = f(..); return ts.index(x) if x in ts else None -/
namespace Dl
open PySem PySem.Spec L2 PyProof.Rows
section
variable {K : PySem.W.Frag} {δ : List Slot} {nx : List Slot → Prop} {rt : Res → Prop} {bk ct : List Slot → Prop}
theorem sd_tupIdx {i j : Nat} {E : XK} {sp : List Res → (List PyData → Prop) → Prop} {ta : TA} {d : PyData} (hj : δ[j]? = some (.dat d)) (hij : i ≠ j) (hi : i < δ.length) (sd : SeqAt.shaped d = true)
    (h : EvA K ta δ fun rs => sp (rs.map argR) fun ds => SeqAt.shaped (.tuple ds) = true ∧ (∀ (n : Nat) z, ds[n]? = some z → PyData.eqv z d = true → (∀ (m : Nat) z', m < n → ds[m]? = some z' → PyData.eqv z' d = false) → rt (.dat (.int (n : Nat)))) ∧ ((∀ z ∈ ds, PyData.eqv z d = false) → rt (.dat .none))) :
    SD K (tSeq (tAsg (tCall (spOfT K sp) [] E ta) (gName i)) (tRet (tIf (tTest (tOp (rInA K) (tVar j) (tVar i))) (tBMT K (rIdxT K) (tVar i) (tCons (tVar j) tNil)) (tC .non)))) ⟨nx, rt, bk, ct⟩ δ := by
  intro B H σ R Ee C
  refine h B H σ R _ fun vs H1 rs e o hs => ?_
  rw [List.append_nil]
  refine ⟨_, _, args_to (R.same.trans e) o fun _ _ => trivial, hs, fun p us ob ds H2 e2 hp hd im ⟨sh, gf, gn⟩ => ?_⟩
  have R2 : Rel K B H2 (σ.set i (some (.ref p))) (δ.set i (.dat (.tuple ds))) := R.set (x := .dat (.tuple ds)) (H0 := H) (e.trans e2) (rTup (.inl (.inr ⟨ob, hp⟩)) im) R.same fun _ _ => Same.refl H
  have sti : (δ.set i (.dat (.tuple ds)))[i]? = some (.dat (.tuple ds)) := by rw [List.getElem?_set_self hi]
  have stj : (δ.set i (.dat (.tuple ds)))[j]? = some (.dat d) := by rw [List.getElem?_set_ne hij]; exact hj
  have hσi : (σ.set i (some (V.ref p)))[i]? = some (some (.ref p)) := by rw [List.getElem?_set_self (by rw [R.len]; exact hi)]
  have t : EvT K (tTest (tOp (rInA K) (tVar j) (tVar i))) (δ.set i (.dat (.tuple ds))) fun b => b = ds.any fun z => PyData.eqv z d :=
    et_test (ec_op opInA (ec_var stj rfl (ec_var sti rfl (.t rfl sd sh ⟨_, rfl, rfl⟩))))
  refine t B H2 _ R2 _ fun b H3 e3 hb => ?_
  have R3 := R2.grow e3
  obtain ⟨y, hy1, hy2⟩ := R3.at_ j _ stj
  have hσj : (σ.set i (some (V.ref p)))[j]? = some (some y) := by
    cases hz : (σ.set i (some (V.ref p)))[j]? with
    | none => rw [hz] at hy1; cases hy1
    | some o => rw [hz] at hy1; exact congrArg some hy1
  cases b with
  | true =>
    rw [if_pos rfl]
    have ex : ∃ n z, ds[n]? = some z ∧ PyData.eqv z d = true ∧ ∀ (m : Nat) z', m < n → ds[m]? = some z' → PyData.eqv z' d = false := by
      have : ∀ ds : List PyData, (ds.any fun z => PyData.eqv z d) = true → ∃ n z, ds[n]? = some z ∧ PyData.eqv z d = true ∧ ∀ (m : Nat) z', m < n → ds[m]? = some z' → PyData.eqv z' d = false := by
        intro ds
        induction ds with
        | nil => intro h; cases h
        | cons x r ih =>
          intro h
          cases hx : PyData.eqv x d with
          | true => exact ⟨0, x, rfl, hx, fun m z' hm => absurd hm (Nat.not_lt_zero m)⟩
          | false =>
            rw [List.any_cons, hx, Bool.false_or] at h
            obtain ⟨n, z, h1, h2, h3⟩ := ih h
            refine ⟨n + 1, z, h1, h2, fun m z' hm hz => ?_⟩
            cases m with
            | zero => cases hz; exact hx
            | succ m => exact h3 m z' (by omega) hz
      exact this ds hb.symm
    obtain ⟨n, z, h1, h2, h3⟩ := ex
    refine ⟨_, hσi, ⟨p, us, ob, rfl, e3 _ _ hp, hd⟩, y, hσj, ?_⟩
    exact ⟨p, y, us, d, ds, n, z, rfl, rfl, .inl (.inr ⟨ob, e3 _ _ hp⟩), (im.to (per_same e3)).toDp, hy2.toDp, sh, sd, h1, h2, h3, C.rt _ H3 _ R3.same rInt (gf n z h1 h2 h3)⟩
  | false =>
    rw [if_neg Bool.false_ne_true]
    refine C.rt _ H3 _ R3.same rNon (gn fun z hz => ?_)
    have := List.any_eq_false.mp hb.symm z hz
    exact Bool.eq_false_iff.mpr this
/-- a def whose body is `return tuple(e)` -/
theorem sd_retTupZ {te : TE} {k : List PyData → Prop} (h : EvC K te δ fun x => ∃ ds, x.items = some ds ∧ k ds) (B H : Hp) (σ : L2.St) (R : Rel K B H σ δ) (E : Ends)
    (q : ∀ (p : Addr) us o ds H', Same B H' → H' p = some (.frz o (.tup us)) → o.dict = none → ImAll K H' us ds → k ds → E.rt (.ref p) H') : tRet (tCB (bTupleZ K) (tCons te tNil)) E σ H := by
  refine h B H σ R _ fun v H1 x e o ⟨ds, hd, hk⟩ => ?_
  obtain ⟨a, vs, rfl, h1, im⟩ := o.list (R.same.trans e) hd
  refine ⟨a, vs, rfl, h1, fun l ob hl hz => ?_⟩
  have sm : Same H1 (upd H1 l (.frz ob (.tup vs))) := same_new hl
  exact q _ _ _ _ _ ((R.same.trans e).trans sm) upd_same hz (im.to (per_same sm)) hk
theorem fn_okT {P : Program} {w : World} {mg : Str → Option Value} {base : Heap} {x qual : Str} {st : Stmt} {f : Addr} {fd : FuncData} {N ps : List Str} {n : Nat} {sp : List Res → (List PyData → Prop) → Prop} (F : Fun K x qual st f fd) (S : FnScope N ps (defScope st))
    (hlen : ∀ rs k, sp rs k → rs.length = ps.length)
    (body : ∀ (cdv : Value) (A : Around) (outer : List Env) (s : Shared) (H : Hp) (E : XK) (rs : List Res) (k : List PyData → Prop), A.guards = some [] → Room n (A.deeper (PyProof.Rows.envOfC qual (defScope st) s.heap.objs.size f cdv)) → sp rs k →
      ∃ te, PSs (cxOf CX0 P w K mg base N qual (defScope st) f cdv A outer s H E).nox (defBody st) (tRet (tCB (bTupleZ K) (tCons te tNil))) ∧ EvC K te (entry N rs) fun x => ∃ ds, x.items = some ds ∧ k ds) : FnG P w K mg base CX0 (n + 1) f fd ps (spOfT K sp) := by
  refine Fun.okG F S (fun vs H Q E h => ?_) fun cdv A outer s H vs Q E hg hr h => ?_
  · obtain ⟨rs, k, h1, h2, _⟩ := h
    rw [h1.length]
    exact hlen rs k h2
  · obtain ⟨rs, k, h1, h2, h3⟩ := h
    obtain ⟨te, pt, ev⟩ := body cdv A outer s H E rs k hg hr h2
    exact ⟨_, pt.nox, sd_retTupZ ev H H _ (rel_start h1) _ fun p us o ds H' sm hp hd im hk => h3 p us o ds H' sm hp hd im hk⟩
/-! ### loops by their places -/
theorem forp_at {α : Type} {g : TG} {tb : TS} {δ : List Slot} {nx : List Slot → Prop} {rt : Res → Prop} (n : Nat) (enc : Nat → PyData) (I : Nat → α → Prop) (δI : α → List Slot) (h0 : ∃ a, I 0 a ∧ Wk δ (δI a))
    (turn : ∀ (t : Nat) (a : α), t < n → I t a → GS K g (.dat (enc t)) (δI a) fun δ' => SD K tb ⟨fun δ2 => ∃ a', I (t + 1) a' ∧ Wk δ2 (δI a'), rt, nx, fun δ2 => ∃ a', I (t + 1) a' ∧ Wk δ2 (δI a')⟩ δ')
    (fin : ∀ a, I n a → nx (δI a)) : ForP K ((List.range n).map enc) g tb nx rt δ := by
  refine forp_inv (List.range n) enc (fun pre a => I pre.length a) δI h0 (fun pre x post a hp hI => ?_) fun a hI => fin a (by rw [List.length_range] at hI; exact hI)
  have hlt : pre.length < n := by
    have := congrArg List.length hp
    simp at this
    omega
  have hx : x = pre.length := by
    have : (List.range n)[pre.length]? = some x := by rw [hp]; simp
    rw [List.getElem?_range hlt] at this
    exact (Option.some.inj this).symm
  subst hx
  have e : (pre ++ [pre.length]).length = pre.length + 1 := by simp
  rw [e]
  exact turn _ a hlt hI
theorem forp_rg {α : Type} {g : TG} {tb : TS} {δ : List Slot} {nx : List Slot → Prop} {rt : Res → Prop} (lo : Int) (n : Nat) (I : Nat → α → Prop) (δI : α → List Slot) (h0 : ∃ a, I 0 a ∧ Wk δ (δI a))
    (turn : ∀ (t : Nat) (a : α), t < n → I t a → GS K g (.dat (.int (lo + (t : Nat)))) (δI a) fun δ' => SD K tb ⟨fun δ2 => ∃ a', I (t + 1) a' ∧ Wk δ2 (δI a'), rt, nx, fun δ2 => ∃ a', I (t + 1) a' ∧ Wk δ2 (δI a')⟩ δ')
    (fin : ∀ a, I n a → nx (δI a)) : ForP K (rgD lo n) g tb nx rt δ := forp_at n (fun t => .int (lo + (t : Nat))) I δI h0 turn fin
theorem forp_en {α : Type} {g : TG} {tb : TS} {δ : List Slot} {nx : List Slot → Prop} {rt : Res → Prop} (ds : List PyData) (I : Nat → α → Prop) (δI : α → List Slot) (h0 : ∃ a, I 0 a ∧ Wk δ (δI a))
    (turn : ∀ (t : Nat) (d : PyData) (a : α), ds[t]? = some d → I t a → GS K g (.dat (.tuple [.int (t : Nat), d])) (δI a) fun δ' => SD K tb ⟨fun δ2 => ∃ a', I (t + 1) a' ∧ Wk δ2 (δI a'), rt, nx, fun δ2 => ∃ a', I (t + 1) a' ∧ Wk δ2 (δI a')⟩ δ')
    (fin : ∀ a, I ds.length a → nx (δI a)) : ForP K (enumD ds) g tb nx rt δ := by
  unfold enumD
  refine forp_at ds.length _ I δI h0 (fun t a ht hI => ?_) fin
  have e : ds[t]? = some (ds.getD t .none) := by rw [List.getD_eq_getElem?_getD, List.getElem?_eq_getElem ht]; rfl
  exact turn t _ a e hI
/-- a loop over a list of data -/
theorem forp_ds {α : Type} {g : TG} {tb : TS} {δ : List Slot} {nx : List Slot → Prop} {rt : Res → Prop} (ds : List PyData) (I : Nat → α → Prop) (δI : α → List Slot) (h0 : ∃ a, I 0 a ∧ Wk δ (δI a))
    (turn : ∀ (t : Nat) (d : PyData) (a : α), ds[t]? = some d → I t a → GS K g (.dat d) (δI a) fun δ' => SD K tb ⟨fun δ2 => ∃ a', I (t + 1) a' ∧ Wk δ2 (δI a'), rt, nx, fun δ2 => ∃ a', I (t + 1) a' ∧ Wk δ2 (δI a')⟩ δ')
    (fin : ∀ a, I ds.length a → nx (δI a)) : ForP K ds g tb nx rt δ := by
  have e : ds = (List.range ds.length).map fun t => ds.getD t .none := by
    refine List.ext_getElem? fun i => ?_
    rw [List.getElem?_map]
    by_cases h : i < ds.length
    · rw [List.getElem?_range h, List.getElem?_eq_getElem h]
      show _ = some (ds.getD i .none)
      rw [List.getD_eq_getElem?_getD, List.getElem?_eq_getElem h]
      rfl
    · rw [List.getElem?_eq_none (by omega), List.getElem?_eq_none (by rw [List.length_range]; omega)]
      rfl
  rw [e]
  refine forp_at ds.length _ I δI h0 (fun t a ht hI => ?_) fin
  have e2 : ds[t]? = some (ds.getD t .none) := by rw [List.getD_eq_getElem?_getD, List.getElem?_eq_getElem ht]; rfl
  exact turn t _ a e2 hI
end
end Dl

/-! own layer: comprehensions over mapped lists -/
namespace Dl
open PySem PySem.Spec L2 PyProof.Rows
section
variable {K : PySem.W.Frag} {δ : List Slot} {k : Res → Prop} {te ta tb : TE} {g : TG} {tt : TT} {ds : List PyData} {vs : List Nat}
theorem lc_mapc {β : Type} (xs : List β) (enc out : β → PyData) (hz : xs.length ≤ 1000000) (h : ∀ x ∈ xs, GE K g (.dat (enc x)) (wipeS δ vs) (fun j => j ∈ vs) fun δ' => EvC K te δ' fun r => r = .dat (out x))
    (hk : k (.fresh (xs.map out))) : LcP K (xs.map enc) g tYes te vs δ k := by
  refine lc_fn (xs.map out) (by simp) (by simpa using hz) (fun i d hd => ?_) hk
  rw [List.getElem?_map] at hd
  obtain ⟨x, hx, rfl⟩ := Option.map_eq_some_iff.mp hd
  refine (h x (List.mem_of_getElem? hx)).imp fun δ' ev => ev.imp fun r hr => ⟨_, hr, ?_⟩
  rw [List.getElem?_map, hx]
  rfl
theorem lc_filtc {β : Type} (xs : List β) (keep : β → Bool) (enc out : β → PyData) (hz : xs.length ≤ 1000000)
    (h : ∀ x ∈ xs, GE K g (.dat (enc x)) (wipeS δ vs) (fun j => j ∈ vs) fun δ' => EvT K tt δ' fun b => b = keep x ∧ (keep x = true → EvC K te δ' fun r => r = .dat (out x)))
    (hk : k (.fresh ((xs.filter keep).map out))) : LcP K (xs.map enc) g tt te vs δ k := by
  refine ⟨fun i acc => acc = ((xs.take i).filter keep).map out, rfl, by simpa using hz, fun i d acc hd ha => ?_, fun o ho => ?_⟩
  · subst ha
    rw [List.getElem?_map] at hd
    obtain ⟨x, hx, rfl⟩ := Option.map_eq_some_iff.mp hd
    refine (h x (List.mem_of_getElem? hx)).imp fun δ' ev => ev.imp fun b ⟨hb, he⟩ => ⟨fun e => (he (hb ▸ e)).imp fun r hr => ⟨_, hr, ?_⟩, fun e => ?_⟩
    · show _ = List.map out (List.filter keep (xs.take (i + 1)))
      rw [List.take_add_one, hx, List.filter_append, List.map_append]
      have : keep x = true := hb ▸ e
      simp [this]
    · show _ = List.map out (List.filter keep (xs.take (i + 1)))
      rw [List.take_add_one, hx, List.filter_append, List.map_append]
      have : keep x = false := hb ▸ e
      simp [this]
  · subst ho
    rw [List.length_map, List.take_length]
    exact hk
/-- each item over a list of data: the list told by what each gives -/
theorem lc_each {Q : PyData → PyData → Prop} (hz : ds.length ≤ 1000000) (h : ∀ d ∈ ds, GE K g (.dat d) (wipeS δ vs) (fun j => j ∈ vs) fun δ' => EvC K te δ' fun r => ∃ e, r = .dat e ∧ Q d e)
    (hk : ∀ out : List PyData, out.length = ds.length → (∀ (i : Nat) (d e : PyData), ds[i]? = some d → out[i]? = some e → Q d e) → k (.fresh out)) : LcP K ds g tYes te vs δ k := by
  refine lc_all (fun i e => ∃ d, ds[i]? = some d ∧ Q d e) hz (fun i d hd => (h d (List.mem_of_getElem? hd)).imp fun δ' ev => ev.imp fun r ⟨e, hr, q⟩ => ⟨e, hr, d, hd, q⟩) fun out ho ha => hk out ho fun i d e hd he => ?_
  obtain ⟨d', h1, h2⟩ := ha i e he
  rw [hd] at h1
  cases h1
  exact h2
end
end Dl

/-! plain law of rows: barred rows are those whose last lamp is too near -/
namespace RowLaw
def fr (s x : Int) (last : List Int) : List Nat := (List.range last.length).filter fun i => decide (s ≤ x - last.getD i 0)
def rowFor (s x : Int) (last : List Int) : Nat := ((fr s x last).head?).getD last.length
def lastTo (s x : Int) (last : List Int) : List Int := last.take (rowFor s x last) ++ [x] ++ last.drop (rowFor s x last + 1)
structure RI (xs last : List Int) (found : List Nat) : Prop where
  len : found.length = xs.length
  few : last.length ≤ xs.length
  low : ∀ k : Nat, k < xs.length → found.getD k 0 < last.length ∧ xs.getD k 0 ≤ last.getD (found.getD k 0) 0
  hit : ∀ r : Nat, r < last.length → ∃ k : Nat, k < xs.length ∧ found.getD k 0 = r ∧ xs.getD k 0 = last.getD r 0
theorem ri_nil : RI [] [] [] := ⟨rfl, Nat.le_refl _, fun k h => by simp at h, fun r h => by simp at h⟩
/-- the rows that the earlier lamps bar -/
theorem barred {xs last : List Int} {found : List Nat} (h : RI xs last found) (s x : Int) (r : Nat) :
    (∃ k : Nat, k < xs.length ∧ found.getD k 0 = r ∧ x - xs.getD k 0 < s) ↔ (r < last.length ∧ x - last.getD r 0 < s) := by
  constructor
  · rintro ⟨k, hk, rfl, hx⟩
    obtain ⟨h1, h2⟩ := h.low k hk
    exact ⟨h1, by omega⟩
  · rintro ⟨hr, hx⟩
    obtain ⟨k, hk, h1, h2⟩ := h.hit r hr
    exact ⟨k, hk, h1, by omega⟩
theorem rowFor_le (s x : Int) (last : List Int) : rowFor s x last ≤ last.length := by
  unfold rowFor
  cases h : fr s x last with
  | nil => simp
  | cons r rest =>
    have : r ∈ fr s x last := by rw [h]; simp
    unfold fr at this
    have := List.mem_range.mp (List.mem_filter.mp this).1
    simp
    omega
theorem getD_append {α : Type} (a b : List α) (k : Nat) (d : α) : (a ++ b).getD k d = if k < a.length then a.getD k d else b.getD (k - a.length) d := by
  rw [List.getD_eq_getElem?_getD, List.getElem?_append]
  split <;> rw [List.getD_eq_getElem?_getD]
theorem lastTo_getD (s x : Int) (last : List Int) (r : Nat) : (lastTo s x last).getD r 0 = if r = rowFor s x last then x else last.getD r 0 := by
  have hl := rowFor_le s x last
  unfold lastTo
  generalize rowFor s x last = m at *
  rw [getD_append, getD_append]
  simp only [List.length_append, List.length_take, List.length_cons, List.length_nil]
  rw [Nat.min_eq_left hl]
  by_cases h1 : r < m
  · rw [if_pos (by omega), if_pos h1, if_neg (by omega), List.getD_eq_getElem?_getD, List.getElem?_take_of_lt h1, List.getD_eq_getElem?_getD]
  · by_cases h2 : r = m
    · subst h2
      rw [if_pos (by omega), if_neg (by omega), if_pos rfl, Nat.sub_self]
      rfl
    · rw [if_neg (by omega), if_neg h2, List.getD_eq_getElem?_getD, List.getElem?_drop, List.getD_eq_getElem?_getD]
      congr 2
      omega
theorem lastTo_len (s x : Int) (last : List Int) : (lastTo s x last).length = max last.length (rowFor s x last + 1) := by
  have hl := rowFor_le s x last
  unfold lastTo
  simp only [List.length_append, List.length_take, List.length_drop, List.length_cons, List.length_nil]
  omega
theorem ri_step {xs last : List Int} {found : List Nat} (h : RI xs last found) (s x : Int) (hx : ∀ k : Nat, k < xs.length → xs.getD k 0 ≤ x) : RI (xs ++ [x]) (lastTo s x last) (found ++ [rowFor s x last]) := by
  have hl := rowFor_le s x last
  have ll := lastTo_len s x last
  have hlen := h.len
  have hfew := h.few
  refine ⟨by simp [h.len], by rw [ll, List.length_append]; simp only [List.length_cons, List.length_nil]; omega, fun k hk => ?_, fun r hr => ?_⟩
  · simp only [List.length_append, List.length_cons, List.length_nil] at hk
    rw [getD_append, getD_append, lastTo_getD, ll, hlen]
    by_cases hk2 : k < xs.length
    · rw [if_pos hk2, if_pos hk2]
      obtain ⟨h1, h2⟩ := h.low k hk2
      have := hx k hk2
      refine ⟨by omega, ?_⟩
      split <;> omega
    · have : k = xs.length := by omega
      subst this
      rw [if_neg (by omega), if_neg (by omega), Nat.sub_self]
      have e : ([rowFor s x last] : List Nat).getD 0 0 = rowFor s x last := rfl
      have e2 : ([x] : List Int).getD 0 0 = x := rfl
      rw [e, e2, if_pos rfl]
      exact ⟨by omega, Int.le_refl _⟩
  · rw [ll] at hr
    by_cases hrr : r = rowFor s x last
    · refine ⟨xs.length, by simp, ?_, ?_⟩
      · rw [getD_append, hlen, if_neg (by omega), Nat.sub_self, hrr]
        rfl
      · rw [getD_append, if_neg (by omega), Nat.sub_self, lastTo_getD, if_pos hrr]
        rfl
    · obtain ⟨k, hk, h1, h2⟩ := h.hit r (by omega)
      refine ⟨k, by simp; omega, ?_, ?_⟩
      · rw [getD_append, hlen, if_pos hk]
        exact h1
      · rw [getD_append, if_pos hk, lastTo_getD, if_neg hrr]
        exact h2
/-- the least row that is not barred is the row told -/
theorem pick {last : List Int} {s x : Int} {n : Nat} (hn : last.length ≤ n) (p : Nat → Bool) (hp : ∀ r, p r = true ↔ ¬ (r < last.length ∧ x - last.getD r 0 < s)) : ((List.range (n + 1)).filter p).head? = some (rowFor s x last) := by
  rw [List.head?_filter, List.find?_range_eq_some]
  have hl := rowFor_le s x last
  have key : ∀ j, j < rowFor s x last → j < last.length ∧ x - last.getD j 0 < s := by
    intro j hj
    refine ⟨by omega, Int.not_le.mp fun hc => ?_⟩
    have hm : j ∈ fr s x last := List.mem_filter.mpr ⟨List.mem_range.mpr (by omega), decide_eq_true (by omega)⟩
    unfold rowFor at hj
    cases hf : fr s x last with
    | nil => rw [hf] at hm; cases hm
    | cons m rest =>
      rw [hf] at hj hm
      have hj2 : j < m := hj
      have pw : (fr s x last).Pairwise (· < ·) := List.Pairwise.filter _ List.pairwise_lt_range
      rw [hf] at pw
      rcases List.mem_cons.mp hm with e | e
      · omega
      · have := (List.pairwise_cons.mp pw).1 j e
        omega
  refine ⟨(hp _).mpr fun h => ?_, List.mem_range.mpr (by omega), fun j hj => ?_⟩
  · obtain ⟨h1, h2⟩ := h
    unfold rowFor at h1 h2
    cases hf : fr s x last with
    | nil =>
      rw [hf] at h1
      exact absurd h1 (Nat.lt_irrefl _)
    | cons m rest =>
      rw [hf] at h2
      have hm : m ∈ fr s x last := by rw [hf]; simp
      have := of_decide_eq_true (List.mem_filter.mp hm).2
      have h3 : x - last.getD m 0 < s := h2
      omega
  · have h := key j hj
    cases hpj : p j with
    | false => rfl
    | true => exact absurd h ((hp j).mp hpj)
end RowLaw

/-! plain law of columns: the first couple that is near, the closest couple; seats stand apart -/
namespace ColLaw
open PySem L2 Dl RowLaw
theorem lex_tot : ∀ {a b : List Int}, HT.lexLt a b = false → HT.lexLt b a = false → a = b
  | [], [], _, _ => rfl
  | [], _ :: _, h, _ => Bool.noConfusion h
  | _ :: _, [], _, h => Bool.noConfusion h
  | x :: a, y :: b, h1, h2 => by
    rw [HT.lexLt_cons] at h1 h2
    by_cases e : x = y
    · rw [if_pos e] at h1
      rw [if_pos e.symm] at h2
      rw [e, lex_tot h1 h2]
    · rw [if_neg e] at h1
      rw [if_neg (fun z => e z.symm)] at h2
      have q1 := of_decide_eq_false h1
      have q2 := of_decide_eq_false h2
      omega
/-- the first couple that is near -/
def NearIs (n : Nat) (close : Nat → Nat → Prop) : Option (Nat × Nat) → Prop
  | none => ∀ i j, i < j → j < n → ¬ close i j
  | some (i, j) => i < j ∧ j < n ∧ close i j ∧ ∀ a b, a < b → b < n → close a b → i < a ∨ (i = a ∧ j ≤ b)
theorem near_one {n : Nat} {close : Nat → Nat → Prop} : ∀ {r t : Option (Nat × Nat)}, NearIs n close r → NearIs n close t → r = t
  | none, none, _, _ => rfl
  | none, some (i, j), h, ⟨h1, h2, h3, _⟩ => absurd h3 (h i j h1 h2)
  | some (i, j), none, ⟨h1, h2, h3, _⟩, h => absurd h3 (h i j h1 h2)
  | some (i, j), some (a, b), ⟨h1, h2, h3, h4⟩, ⟨g1, g2, g3, g4⟩ => by
    have q1 := h4 a b g1 g2 g3
    have q2 := g4 i j h1 h2 h3
    have e1 : i = a := by omega
    have e2 : j = b := by omega
    rw [e1, e2]
/-- the couple with the least list -/
def BestIs (n : Nat) (f : Nat → Nat → List Int) : Option (List Int) → Prop
  | none => ∀ i j, i < j → ¬ j < n
  | some c => (∃ i j, i < j ∧ j < n ∧ c = f i j) ∧ ∀ a b, a < b → b < n → HT.lexLt (f a b) c = false
theorem best_one {n : Nat} {f : Nat → Nat → List Int} : ∀ {r t : Option (List Int)}, BestIs n f r → BestIs n f t → r = t
  | none, none, _, _ => rfl
  | none, some _, h, ⟨⟨i, j, h1, h2, _⟩, _⟩ => absurd h2 (h i j h1)
  | some _, none, ⟨⟨i, j, h1, h2, _⟩, _⟩, h => absurd h2 (h i j h1)
  | some c, some d, ⟨⟨i, j, h1, h2, h3⟩, h4⟩, ⟨⟨a, b, g1, g2, g3⟩, g4⟩ => by
    have q1 := h4 a b g1 g2
    have q2 := g4 i j h1 h2
    rw [← g3] at q1
    rw [← h3] at q2
    rw [lex_tot q2 q1]
/-- the least of those that were met -/
def Least (V : Nat → Nat → Prop) (f : Nat → Nat → List Int) : Option (List Int) → Prop
  | none => ∀ i j, ¬ V i j
  | some c => (∃ i j, V i j ∧ c = f i j) ∧ ∀ a b, V a b → HT.lexLt (f a b) c = false
theorem least_step {V W : Nat → Nat → Prop} {f : Nat → Nat → List Int} {i j : Nat} (hW : ∀ a b, W a b ↔ V a b ∨ (a = i ∧ b = j)) : ∀ {r : Option (List Int)}, Least V f r →
    Least W f (match r with | none => some (f i j) | some c => if HT.lexLt (f i j) c = true then some (f i j) else some c)
  | none, h => ⟨⟨i, j, (hW i j).mpr (.inr ⟨rfl, rfl⟩), rfl⟩, fun a b hab => by
    rcases (hW a b).mp hab with z | ⟨rfl, rfl⟩
    · exact absurd z (h a b)
    · exact lex_irr _⟩
  | some c, ⟨⟨a, b, h1, h2⟩, h3⟩ => by
    dsimp only
    by_cases e : HT.lexLt (f i j) c = true
    · rw [if_pos e]
      refine ⟨⟨i, j, (hW i j).mpr (.inr ⟨rfl, rfl⟩), rfl⟩, fun p q hpq => ?_⟩
      rcases (hW p q).mp hpq with z | ⟨rfl, rfl⟩
      · cases hz : HT.lexLt (f p q) (f i j) with
        | false => rfl
        | true => exact absurd (lex_tr hz e) (by rw [h3 p q z]; exact Bool.false_ne_true)
      · exact lex_irr _
    · rw [if_neg e]
      refine ⟨⟨a, b, (hW a b).mpr (.inl h1), h2⟩, fun p q hpq => ?_⟩
      rcases (hW p q).mp hpq with z | ⟨rfl, rfl⟩
      · exact h3 p q z
      · exact Bool.eq_false_iff.mpr e
theorem least_iff {V W : Nat → Nat → Prop} {f : Nat → Nat → List Int} (hW : ∀ a b, W a b ↔ V a b) : ∀ {r : Option (List Int)}, Least V f r → Least W f r
  | none, h => fun i j z => h i j ((hW i j).mp z)
  | some c, ⟨⟨a, b, h1, h2⟩, h3⟩ => ⟨⟨a, b, (hW a b).mpr h1, h2⟩, fun p q z => h3 p q ((hW p q).mp z)⟩
end ColLaw

namespace My
open PySem PySem.Spec L2 Dl
def topS (i : Nat) : Stmt := PySem.Challenge.pw_lampsaloft_k17_seats_and_columns.main.body.getD i (.Pass ⟨0, 0, 0, 0⟩)
abbrev s_squared : Stmt := topS 1
theorem sc_squared : FnScope ["one", "other", "x", "y"] ["one", "other"] (defScope s_squared) := ⟨rfl, rfl, rfl, by decide +kernel, rfl, by decide +kernel, by decide +kernel⟩
abbrev s_rows_of : Stmt := topS 3
theorem sc_rows_of : FnScope ["picture", "spacing", "last", "found", "lamp", "row", "free", "x"] ["picture", "spacing"] (defScope s_rows_of) := ⟨rfl, rfl, rfl, by decide +kernel, rfl, by decide +kernel, by decide +kernel⟩
abbrev s_seats_of : Stmt := topS 5
theorem sc_seats_of : FnScope ["picture", "spacing", "lamp", "row"] ["picture", "spacing"] (defScope s_seats_of) := ⟨rfl, rfl, rfl, by decide +kernel, rfl, by decide +kernel, by decide +kernel⟩
abbrev s_first_near : Stmt := topS 6
theorem sc_first_near : FnScope ["columns", "spacing", "i", "one", "j"] ["columns", "spacing"] (defScope s_first_near) := ⟨rfl, rfl, rfl, by decide +kernel, rfl, by decide +kernel, by decide +kernel⟩
abbrev s_are_spaced : Stmt := topS 7
theorem sc_are_spaced : FnScope ["columns", "spacing"] ["columns", "spacing"] (defScope s_are_spaced) := ⟨rfl, rfl, rfl, by decide +kernel, rfl, by decide +kernel, by decide +kernel⟩
abbrev s_closest : Stmt := topS 8
theorem sc_closest : FnScope ["columns", "found", "i", "one", "j", "here"] ["columns"] (defScope s_closest) := ⟨rfl, rfl, rfl, by decide +kernel, rfl, by decide +kernel, by decide +kernel⟩
abbrev s_lamp_at : Stmt := topS 9
theorem sc_lamp_at : FnScope ["picture", "spacing", "column", "seats"] ["picture", "spacing", "column"] (defScope s_lamp_at) := ⟨rfl, rfl, rfl, by decide +kernel, rfl, by decide +kernel, by decide +kernel⟩
abbrev s_depth_of : Stmt := topS 10
theorem sc_depth_of : FnScope ["picture", "spacing", "_x", "y"] ["picture", "spacing"] (defScope s_depth_of) := ⟨rfl, rfl, rfl, by decide +kernel, rfl, by decide +kernel, by decide +kernel⟩
abbrev s__law_bag : Stmt := topS 12
theorem sc__law_bag : FnScope ["_law_script", "_law_cell"] ["_law_script"] (defScope s__law_bag) := ⟨rfl, rfl, rfl, by decide +kernel, rfl, by decide +kernel, by decide +kernel⟩
abbrev s__law_take : Stmt := topS 13
theorem sc__law_take : FnScope ["_law_bag_here", "_law_many", "_law_cell", "_law_stirred", "_law_value", "_law_begin", "_law_second"] ["_law_bag_here", "_law_many"] (defScope s__law_take) := ⟨rfl, rfl, rfl, by decide +kernel, rfl, by decide +kernel, by decide +kernel⟩
abbrev s__law_some : Stmt := topS 14
theorem sc__law_some : FnScope ["_law_bag_here", "_law_things"] ["_law_bag_here", "_law_things"] (defScope s__law_some) := ⟨rfl, rfl, rfl, by decide +kernel, rfl, by decide +kernel, by decide +kernel⟩
abbrev s__law_alike : Stmt := topS 15
theorem sc__law_alike : FnScope ["_law_found", "_law_due"] ["_law_found", "_law_due"] (defScope s__law_alike) := ⟨rfl, rfl, rfl, by decide +kernel, rfl, by decide +kernel, by decide +kernel⟩
abbrev s__law_dot : Stmt := topS 16
theorem sc__law_dot : FnScope ["_law_bag_here", "_law_wide"] ["_law_bag_here", "_law_wide"] (defScope s__law_dot) := ⟨rfl, rfl, rfl, by decide +kernel, rfl, by decide +kernel, by decide +kernel⟩
abbrev s__law_shades : Stmt := topS 17
theorem sc__law_shades : FnScope ["_law_bag_here", "_law_names", "_law_some_here", "_law_turn"] ["_law_bag_here"] (defScope s__law_shades) := ⟨rfl, rfl, rfl, by decide +kernel, rfl, by decide +kernel, by decide +kernel⟩
abbrev s__law_shape : Stmt := topS 18
theorem sc__law_shape : FnScope ["_law_points"] ["_law_points"] (defScope s__law_shape) := ⟨rfl, rfl, rfl, by decide +kernel, rfl, by decide +kernel, by decide +kernel⟩
abbrev s__law_rows : Stmt := topS 19
theorem sc__law_rows : FnScope ["_law_picture", "_law_spacing", "_law_found", "_law_at", "_law_lamp", "_law_barred", "_law_k", "_law_row"] ["_law_picture", "_law_spacing"] (defScope s__law_rows) := ⟨rfl, rfl, rfl, by decide +kernel, rfl, by decide +kernel, by decide +kernel⟩
abbrev s__law_seats : Stmt := topS 20
theorem sc__law_seats : FnScope ["_law_picture", "_law_spacing", "_law_lamp", "_law_row"] ["_law_picture", "_law_spacing"] (defScope s__law_seats) := ⟨rfl, rfl, rfl, by decide +kernel, rfl, by decide +kernel, by decide +kernel⟩
abbrev s__law_close_picture : Stmt := topS 21
theorem sc__law_close_picture : FnScope ["_law_bag_here", "_law_wide", "_law_dots", "_law_lamps", "_law_turn", "_law_x", "_law_z"] ["_law_bag_here"] (defScope s__law_close_picture) := ⟨rfl, rfl, rfl, by decide +kernel, rfl, by decide +kernel, by decide +kernel⟩
abbrev s__law_squared : Stmt := topS 22
theorem sc__law_squared : FnScope ["_law_one", "_law_other"] ["_law_one", "_law_other"] (defScope s__law_squared) := ⟨rfl, rfl, rfl, by decide +kernel, rfl, by decide +kernel, by decide +kernel⟩
abbrev s__law_couples : Stmt := topS 23
theorem sc__law_couples : FnScope ["_law_columns", "_law_found", "_law_j", "_law_i"] ["_law_columns"] (defScope s__law_couples) := ⟨rfl, rfl, rfl, by decide +kernel, rfl, by decide +kernel, by decide +kernel⟩
abbrev s_law : Stmt := topS 24
theorem sc_law : FnScope ["_law_script", "_law_bag_here", "_law_turn", "_law_wide", "_law_columns", "_law_couples_here", "_law_spacings", "_law_spacing", "_law_near", "_law_due", "_law_told", "_law_picture", "_law_column", "_law_at", "_law_place", "_law_one", "_law_other", "_law_lamp", "_law_seat", "_law_couple", "_law_x", "_law_y"] ["_law_script"] (defScope s_law) := ⟨rfl, rfl, rfl, by decide +kernel, rfl, by decide +kernel, by decide +kernel⟩
structure Tp (K : PySem.W.Frag) (mg : Str → Option Value) where
  f_squared : Addr
  fd_squared : FuncData
  F_squared : Fun K "squared" "squared" s_squared f_squared fd_squared
  m_squared : mg "squared" = some (.ref f_squared)
  b_squared : Binds K fd_squared ["one", "other"] []
  f_rows_of : Addr
  fd_rows_of : FuncData
  F_rows_of : Fun K "rows_of" "rows_of" s_rows_of f_rows_of fd_rows_of
  m_rows_of : mg "rows_of" = some (.ref f_rows_of)
  b_rows_of : Binds K fd_rows_of ["picture", "spacing"] []
  f_seats_of : Addr
  fd_seats_of : FuncData
  F_seats_of : Fun K "seats_of" "seats_of" s_seats_of f_seats_of fd_seats_of
  m_seats_of : mg "seats_of" = some (.ref f_seats_of)
  b_seats_of : Binds K fd_seats_of ["picture", "spacing"] []
  f_first_near : Addr
  fd_first_near : FuncData
  F_first_near : Fun K "first_near" "first_near" s_first_near f_first_near fd_first_near
  m_first_near : mg "first_near" = some (.ref f_first_near)
  b_first_near : Binds K fd_first_near ["columns", "spacing"] []
  f_are_spaced : Addr
  fd_are_spaced : FuncData
  F_are_spaced : Fun K "are_spaced" "are_spaced" s_are_spaced f_are_spaced fd_are_spaced
  m_are_spaced : mg "are_spaced" = some (.ref f_are_spaced)
  b_are_spaced : Binds K fd_are_spaced ["columns", "spacing"] []
  f_closest : Addr
  fd_closest : FuncData
  F_closest : Fun K "closest" "closest" s_closest f_closest fd_closest
  m_closest : mg "closest" = some (.ref f_closest)
  b_closest : Binds K fd_closest ["columns"] []
  f_lamp_at : Addr
  fd_lamp_at : FuncData
  F_lamp_at : Fun K "lamp_at" "lamp_at" s_lamp_at f_lamp_at fd_lamp_at
  m_lamp_at : mg "lamp_at" = some (.ref f_lamp_at)
  b_lamp_at : Binds K fd_lamp_at ["picture", "spacing", "column"] []
  f_depth_of : Addr
  fd_depth_of : FuncData
  F_depth_of : Fun K "depth_of" "depth_of" s_depth_of f_depth_of fd_depth_of
  m_depth_of : mg "depth_of" = some (.ref f_depth_of)
  b_depth_of : Binds K fd_depth_of ["picture", "spacing"] []
  f__law_bag : Addr
  fd__law_bag : FuncData
  F__law_bag : Fun K "_law_bag" "_law_bag" s__law_bag f__law_bag fd__law_bag
  m__law_bag : mg "_law_bag" = some (.ref f__law_bag)
  b__law_bag : Binds K fd__law_bag ["_law_script"] []
  f__law_take : Addr
  fd__law_take : FuncData
  F__law_take : Fun K "_law_take" "_law_take" s__law_take f__law_take fd__law_take
  m__law_take : mg "_law_take" = some (.ref f__law_take)
  b__law_take : Binds K fd__law_take ["_law_bag_here", "_law_many"] []
  f__law_some : Addr
  fd__law_some : FuncData
  F__law_some : Fun K "_law_some" "_law_some" s__law_some f__law_some fd__law_some
  m__law_some : mg "_law_some" = some (.ref f__law_some)
  b__law_some : Binds K fd__law_some ["_law_bag_here", "_law_things"] []
  f__law_alike : Addr
  fd__law_alike : FuncData
  F__law_alike : Fun K "_law_alike" "_law_alike" s__law_alike f__law_alike fd__law_alike
  m__law_alike : mg "_law_alike" = some (.ref f__law_alike)
  b__law_alike : Binds K fd__law_alike ["_law_found", "_law_due"] []
  f__law_dot : Addr
  fd__law_dot : FuncData
  F__law_dot : Fun K "_law_dot" "_law_dot" s__law_dot f__law_dot fd__law_dot
  m__law_dot : mg "_law_dot" = some (.ref f__law_dot)
  b__law_dot : Binds K fd__law_dot ["_law_bag_here", "_law_wide"] []
  f__law_shades : Addr
  fd__law_shades : FuncData
  F__law_shades : Fun K "_law_shades" "_law_shades" s__law_shades f__law_shades fd__law_shades
  m__law_shades : mg "_law_shades" = some (.ref f__law_shades)
  b__law_shades : Binds K fd__law_shades ["_law_bag_here"] []
  f__law_shape : Addr
  fd__law_shape : FuncData
  F__law_shape : Fun K "_law_shape" "_law_shape" s__law_shape f__law_shape fd__law_shape
  m__law_shape : mg "_law_shape" = some (.ref f__law_shape)
  b__law_shape : Binds K fd__law_shape ["_law_points"] []
  f__law_rows : Addr
  fd__law_rows : FuncData
  F__law_rows : Fun K "_law_rows" "_law_rows" s__law_rows f__law_rows fd__law_rows
  m__law_rows : mg "_law_rows" = some (.ref f__law_rows)
  b__law_rows : Binds K fd__law_rows ["_law_picture", "_law_spacing"] []
  f__law_seats : Addr
  fd__law_seats : FuncData
  F__law_seats : Fun K "_law_seats" "_law_seats" s__law_seats f__law_seats fd__law_seats
  m__law_seats : mg "_law_seats" = some (.ref f__law_seats)
  b__law_seats : Binds K fd__law_seats ["_law_picture", "_law_spacing"] []
  f__law_close_picture : Addr
  fd__law_close_picture : FuncData
  F__law_close_picture : Fun K "_law_close_picture" "_law_close_picture" s__law_close_picture f__law_close_picture fd__law_close_picture
  m__law_close_picture : mg "_law_close_picture" = some (.ref f__law_close_picture)
  b__law_close_picture : Binds K fd__law_close_picture ["_law_bag_here"] []
  f__law_squared : Addr
  fd__law_squared : FuncData
  F__law_squared : Fun K "_law_squared" "_law_squared" s__law_squared f__law_squared fd__law_squared
  m__law_squared : mg "_law_squared" = some (.ref f__law_squared)
  b__law_squared : Binds K fd__law_squared ["_law_one", "_law_other"] []
  f__law_couples : Addr
  fd__law_couples : FuncData
  F__law_couples : Fun K "_law_couples" "_law_couples" s__law_couples f__law_couples fd__law_couples
  m__law_couples : mg "_law_couples" = some (.ref f__law_couples)
  b__law_couples : Binds K fd__law_couples ["_law_columns"] []
  f_law : Addr
  fd_law : FuncData
  F_law : Fun K "law" "law" s_law f_law fd_law
  m_law : mg "law" = some (.ref f_law)
  b_law : Binds K fd_law ["_law_script"] []
  z_abs : mg "abs" = none
  z_enumerate : mg "enumerate" = none
  z_int : mg "int" = none
  z_len : mg "len" = none
  z_list : mg "list" = none
  z_max : mg "max" = none
  z_min : mg "min" = none
  z_range : mg "range" = none
  z_repr : mg "repr" = none
  z_set : mg "set" = none
  z_sorted : mg "sorted" = none
  z_tuple : mg "tuple" = none
  z_zip : mg "zip" = none
/-! one step of the walk over abstract slots, where no choice is -/
local macro_rules | `(tactic| walk_at "g1") => `(tactic| first
  | (with_reducible refine sd_seq ?_)
  | (with_reducible refine sd_asg ?_)
  | (with_reducible refine sd_par ?_)
  | (with_reducible refine sd_par3 ?_)
  | (with_reducible refine sd_if ?_)
  | ((with_reducible refine' sd_retOwn ?h1 ?_); case h1 => exact rfl)
  | (with_reducible refine sd_ret ?_)
  | (with_reducible refine sd_for ?_)
  | ((with_reducible refine' sd_append ?h1 ?h2 ?_); (case h1 => exact rfl); (case h2 => (first | decide | omega | (dsimp only [List.length]; decide) | (simp only [List.length_append, List.length_cons, List.length_nil]; omega))))
  | ((with_reducible refine sd_aug ?h1 ?_); case h1 => exact rfl)
  | (with_reducible refine sd_next ?_)
  | (with_reducible refine sd_retN ?_)
  | ((with_reducible refine gs_name ?_); (try dsimp only [List.set, sto]))
  | (with_reducible refine gss_cons ?_)
  | (with_reducible refine gss_nil ?_)
  | ((with_reducible refine gs_tup ?h1 ?_); case h1 => exact rfl)
  | ((with_reducible refine ge_name ?h1 ?_); (case h1 => decide); (try dsimp only [List.set, sto]))
  | (with_reducible refine ges_cons ?_)
  | (with_reducible refine ges_nil ?_)
  | ((with_reducible refine ge_tup ?h1 ?_); case h1 => exact rfl)
  | ((with_reducible refine' ec_var ?h1 ?h2 ?_); (case h1 => exact rfl); (case h2 => (first | exact rfl | assumption)))
  | (with_reducible refine ec_int ?_)
  | (with_reducible refine ec_non ?_)
  | (with_reducible refine ec_bl ?_)
  | (with_reducible refine ec_str ?_)
  | (with_reducible refine ec_op opAdd ?_)
  | (with_reducible refine ec_op opSub ?_)
  | (with_reducible refine ec_op opMulC ?_)
  | (with_reducible refine ec_op opIxA ?_)
  | (with_reducible refine ec_op opEqA ?_)
  | (with_reducible refine ec_op opNeA ?_)
  | (with_reducible refine ec_op opLt ?_)
  | (with_reducible refine ec_op opLe ?_)
  | (with_reducible refine ec_op opGt ?_)
  | (with_reducible refine ec_op opGe ?_)
  | (with_reducible refine ec_op opMod ?_)
  | (with_reducible refine ec_op opFdvA ?_)
  | (with_reducible refine ec_op opPow ?_)
  | (with_reducible refine ec_op opInA ?_)
  | (with_reducible refine ec_op opNotInA ?_)
  | (with_reducible refine ec_op opIsNo ?_)
  | (with_reducible refine ec_op opNotNo ?_)
  | (with_reducible refine ec_neg ?_)
  | (with_reducible refine ec_sl ?_)
  | (with_reducible refine ec_tup ?_)
  | (with_reducible refine ec_lst ?_)
  | (with_reducible refine ec_frz ?_)
  | (with_reducible refine ec_if ?_)
  | (with_reducible refine ec_and ?_)
  | (with_reducible refine ec_or ?_)
  | (with_reducible refine ec_not ?_)
  | (with_reducible refine ec_call ?_)
  | (with_reducible refine ec_lc ?_)
  | (with_reducible refine ec_cb cbAbs ?_)
  | (with_reducible refine ec_cb cbLen ?_)
  | (with_reducible refine ec_cb cbInt ?_)
  | (with_reducible refine ec_cb cbList ?_)
  | (with_reducible refine ec_cb cbTuple ?_)
  | (with_reducible refine ec_cb cbSum ?_)
  | (with_reducible refine ec_cb cbAll ?_)
  | (with_reducible refine ec_cb cbMax2 ?_)
  | (with_reducible refine ec_cb cbMin2 ?_)
  | (with_reducible refine ec_cb cbMax1 ?_)
  | (with_reducible refine ec_cb cbMinA ?_)
  | (with_reducible refine ea_star ?_)
  | (with_reducible refine ec_listRg ?_)
  | (with_reducible refine ec_sortSet ?_)
  | (with_reducible refine ec_cb cbSortedA ?_)
  | (with_reducible refine ec_cb cbRepr ?_)
  | (with_reducible refine ec_cb cbGcd ?_)
  | (with_reducible refine ec_isi ?_)
  | (with_reducible refine ec_cb cbIsqrt ?_)
  | (with_reducible refine ec_tupZip ?_)
  | (with_reducible refine itl_zip ?_)
  | (with_reducible refine ite_zip ?_)
  | (with_reducible refine itl_enum ?_)
  | (with_reducible refine ite_enum ?_)
  | (with_reducible refine ec_bagc ?_)
  | (with_reducible refine et_yes ?_)
  | (with_reducible refine ite_seq ?_)
  | (with_reducible refine itl_seq ?_)
  | (with_reducible refine ite_r1 ?_)
  | (with_reducible refine itl_r1 ?_)
  | (with_reducible refine ite_r2 ?_)
  | (with_reducible refine itl_r2 ?_)
  | (with_reducible refine eo_none ?_)
  | (with_reducible refine eo_some ?_)
  | (with_reducible refine ea_cons ?_)
  | (with_reducible refine ea_nil ?_)
  | (with_reducible refine et_test ?_)
  | (with_reducible refine et_tr ?_)
  | (with_reducible refine et_and ?_)
  | (with_reducible refine et_or ?_)
  | (with_reducible refine et_not ?_)
  | (with_reducible refine AddP.int ?_)
  | ((with_reducible refine' AddP.lst ?h1 ?h2 ?h3 ?_); (case h1 => exact rfl); (case h2 => exact rfl); (case h3 => (first | (dsimp only [List.length]; decide) | assumption | (simp only [List.length_append, List.length_cons, List.length_nil, sizeLine]; omega))))
  | (with_reducible refine sub_i ?_)
  | (with_reducible refine le_i ?_)
  | (with_reducible refine gt_i ?_)
  | (with_reducible refine ge_i ?_)
  | (with_reducible refine LtP.int ?_)
  | (with_reducible refine eqq_i ?_)
  | (with_reducible refine EqQ.s ?_)
  | (with_reducible refine NeQ.s ?_)
  | (with_reducible refine neq_i ?_)
  | (with_reducible refine NoP.dat ?_)
  | ((with_reducible refine mult_w ?h1 ?_); case h1 => (first | assumption | (refine cmw ?_ ?_ ?_ ?_ <;> omega)))
  | (with_reducible refine TrP.bool ?_)
  | (with_reducible refine TrP.int ?_)
  | (with_reducible refine AbsP.mk ?_)
  | (with_reducible refine GcdP.mk ?_)
  | ((with_reducible refine FdvQ.z ?h1 ?_); case h1 => assumption)
  | (with_reducible refine Int2P.mk ?_)
  | (with_reducible refine ToIntP.int ?_)
  | (with_reducible refine ToIntP.bool ?_)
  | (with_reducible refine LenP.tup ?_)
  | (with_reducible refine TupleP.tup ?_)
  | (with_reducible refine ListP.tup ?_)
  | (with_reducible refine SlP.tup ?_)
  | (with_reducible refine Br.t ?_)
  | (with_reducible refine Br.f ?_)
  | (with_reducible refine IxQ.bag0 fun _ _ => ?_)
  | (with_reducible refine IxQ.bag1 fun _ _ _ => ?_)
  | (with_reducible refine IxQ.bag2 fun _ _ => ?_)
  | (with_reducible refine IxQ.bag3 fun _ _ => ?_)
  | ((with_reducible refine mod_i ?h1 ?_); case h1 => omega)
  | ((with_reducible refine fdvq_p ?h1 ?_); case h1 => (first | assumption | (refine cdv ?_ ?_ <;> omega)))
  | ((with_reducible refine mult_l ?h1 ?h2 ?_); (case h1 => omega); (case h2 => omega))
  | ((with_reducible refine mult_r ?h1 ?h2 ?_); (case h1 => omega); (case h2 => omega))
  | ((with_reducible refine pow_i ?h1 ?_); case h1 => exact ⟨by decide, by decide, by decide⟩)
  | ((with_reducible refine' ixq_tup ?h1 ?_); case h1 => exact rfl)
  | (refine' ixq_lst ?h1 ?h2 ?_; (case h1 => exact rfl); (case h2 => exact rfl))
  | (refine' LenP.lst ?h1 ?_; case h1 => exact rfl)
  | (refine' TupleP.lst ?h1 ?_; case h1 => exact rfl)
  | (refine' ListP.lst ?h1 ?_; case h1 => exact rfl)
  | (refine' SlP.lst ?h1 ?_; case h1 => exact rfl)
  | (refine ⟨⟨(by omega), (by omega)⟩, fun _ _ _ => ?_⟩)
  | ((refine ⟨_, rfl, ?h1, ?_⟩); (case h1 => (dsimp only [List.length]; decide)); (try dsimp only))
  | (refine ⟨_, rfl, ?_⟩))
local macro_rules | `(tactic| walk_at "g") => `(tactic| repeat walk_at "g1")
local macro_rules | `(tactic| walk_at "w") => `(tactic| repeat first | exact Wk.nil | refine Wk.same ?_ | refine Wk.any ?_)

/-- a lamp: x, z, shades, weight -/
structure Lamp where
  x : Int
  z : Int
  sh : PyData
  wt : Int
def lampD (l : Lamp) : PyData := .tuple [.int l.x, .int l.z, l.sh, .int l.wt]
abbrev Col := Int × Int
def cD (c : Col) : PyData := .tuple [.int c.1, .int c.2]
def Bc (c : Col) : Prop := (-1000000000 < c.1 ∧ c.1 < 1000000000) ∧ (-1000000000 < c.2 ∧ c.2 < 1000000000)
def sq (a b : Col) : Int := (a.1 - b.1) * (a.1 - b.1) + (a.2 - b.2) * (a.2 - b.2)
def sp_sq : ASp := fun rs k => ∃ a b : Col, rs = [.dat (cD a), .dat (cD b)] ∧ Bc a ∧ Bc b ∧ k (.dat (.int (sq a b)))
theorem sq_swap (a b : Col) : (b.1 - a.1) * (b.1 - a.1) + (b.2 - a.2) * (b.2 - a.2) = sq a b := by unfold sq; grind
open RowLaw
def rowSt (s : Int) (xs : List Int) : List Int × List Nat := xs.foldl (fun a x => (lastTo s x a.1, a.2 ++ [rowFor s x a.1])) ([], [])
def rowsOf (s : Int) (xs : List Int) : List Nat := (rowSt s xs).2
theorem rowSt_snoc (s : Int) (xs : List Int) (x : Int) : rowSt s (xs ++ [x]) = (lastTo s x (rowSt s xs).1, (rowSt s xs).2 ++ [rowFor s x (rowSt s xs).1]) := by
  unfold rowSt
  rw [List.foldl_append]
  rfl
def natD (r : Nat) : PyData := .int (r : Nat)
def sp_rows : ASp := fun rs k => ∃ (ps : List Lamp) (s : Int), rs = [.dat (.tuple (ps.map lampD)), .dat (.int s)] ∧ ps.length ≤ 20 ∧ k (.dat (.tuple ((rowsOf s (ps.map (·.x))).map natD)))
/-- the state of the rows: as told by the fold, and what it means -/
def RS (s : Int) (xs : List Int) (fs : List Nat) : Prop := ∃ last, rowSt s xs = (last, fs) ∧ RI xs last fs
theorem rs_step {s : Int} {xs : List Int} {fs : List Nat} (x : Int) (hx : ∀ k : Nat, k < xs.length → xs.getD k 0 ≤ x) (h : RS s xs fs) : ∃ r : Nat, RS s (xs ++ [x]) (fs ++ [r]) ∧
    ∀ p : Nat → Bool, (∀ j, p j = true ↔ ¬ ∃ k : Nat, k < xs.length ∧ fs.getD k 0 = j ∧ x - xs.getD k 0 < s) → ((List.range (xs.length + 1)).filter p).head? = some r := by
  obtain ⟨last, h1, h2⟩ := h
  refine ⟨rowFor s x last, ⟨lastTo s x last, by rw [rowSt_snoc, h1], ri_step h2 s x hx⟩, fun p hp => pick h2.few p fun j => ?_⟩
  rw [hp j, barred h2]
def seatD (s : Int) (ps : List Lamp) (i : Nat) : PyData := .tuple [.int ((ps.map (·.x)).getD i 0), .int ((((rowsOf s (ps.map (·.x))).getD i 0 : Nat) : Int) * s)]
def seatsD (s : Int) (ps : List Lamp) : PyData := .tuple ((List.range ps.length).map (seatD s ps))
theorem rows_len (s : Int) (xs : List Int) : (rowsOf s xs).length = xs.length := by
  have h : ∀ (xs : List Int) (a : List Int × List Nat), (xs.foldl (fun a x => (lastTo s x a.1, a.2 ++ [rowFor s x a.1])) a).2.length = a.2.length + xs.length := by
    intro xs
    induction xs with
    | nil => intro a; simp
    | cons x r ih =>
      intro a
      rw [List.foldl_cons, ih]
      simp only [List.length_append, List.length_cons, List.length_nil]
      omega
  unfold rowsOf rowSt
  rw [h]
  simp
def sp_seats : ASp := fun rs k => ∃ (ps : List Lamp) (s : Int), rs = [.dat (.tuple (ps.map lampD)), .dat (.int s)] ∧ ps.length ≤ 20 ∧ (-1000000 < s ∧ s < 1000000) ∧ (ps.map (·.x)).Pairwise (· ≤ ·) ∧ k (.dat (seatsD s ps))
def sp_lrows : ASp := fun rs k => ∃ (ps : List Lamp) (s : Int), rs = [.dat (.tuple (ps.map lampD)), .dat (.int s)] ∧ ps.length ≤ 20 ∧ (ps.map (·.x)).Pairwise (· ≤ ·) ∧ k (.dat (.tuple ((rowsOf s (ps.map (·.x))).map natD)))
open ColLaw
def nearD : Option (Nat × Nat) → PyData
  | none => .none
  | some p => .tuple [.int (p.1 : Nat), .int (p.2 : Nat)]
def colAt (cols : List Col) (i : Nat) : Col := cols.getD i (0, 0)
def sqAt (cols : List Col) (i j : Nat) : Int := sq (colAt cols i) (colAt cols j)
def closeC (cols : List Col) (s : Int) (i j : Nat) : Prop := sqAt cols i j < s * s
def isCols (x : Res) (cols : List Col) : Prop := x = .bor (cols.map cD) ∨ x = .dat (.tuple (cols.map cD))
def sp_near : ASp := fun rs k => ∃ (x : Res) (cols : List Col) (s : Int), rs = [x, .dat (.int s)] ∧ isCols x cols ∧ cols.length ≤ 20 ∧ (∀ c ∈ cols, Bc c) ∧ (-1000000 < s ∧ s < 1000000) ∧ ∀ r, NearIs cols.length (closeC cols s) r → k (.dat (nearD r))
def sp_spaced : ASp := fun rs k => ∃ (x : Res) (cols : List Col) (s : Int), rs = [x, .dat (.int s)] ∧ isCols x cols ∧ cols.length ≤ 20 ∧ (∀ c ∈ cols, Bc c) ∧ (-1000000 < s ∧ s < 1000000) ∧ ∀ r, NearIs cols.length (closeC cols s) r → k (.dat (.bool r.isNone))
def tripL (cols : List Col) (i j : Nat) : List Int := [sqAt cols i j, (i : Nat), (j : Nat)]
def optD : Option (List Int) → PyData
  | none => .none
  | some c => tupD c
def sp_closest : ASp := fun rs k => ∃ (x : Res) (cols : List Col), rs = [x] ∧ isCols x cols ∧ cols.length ≤ 20 ∧ (∀ c ∈ cols, Bc c) ∧ ∀ r, BestIs cols.length (tripL cols) r → k (.dat (optD r))
theorem col_get {cols : List Col} {i : Nat} (h : i < cols.length) : cols[i]? = some (colAt cols i) := by
  unfold colAt
  rw [List.getD_eq_getElem?_getD, List.getElem?_eq_getElem h]
  rfl
theorem col_mem {cols : List Col} {i : Nat} (h : i < cols.length) : colAt cols i ∈ cols := List.mem_of_getElem? (col_get h)
theorem col_d {cols : List Col} {i : Nat} (h : i < cols.length) : (cols.map cD)[i]? = some (cD (colAt cols i)) := by rw [List.getElem?_map, col_get h]; rfl
theorem cols_slot {x : Res} {cols : List Col} (h : isCols x cols) : slotRes (argSlot x) = some x := by rcases h with rfl | rfl <;> rfl
theorem cols_still {x : Res} {cols : List Col} (h : isCols x cols) : x.still = some (cols.map cD) := by rcases h with rfl | rfl <;> rfl
theorem ixq_cols {x : Res} {cols : List Col} {i : Nat} {k : Res → Prop} (h : isCols x cols) (hi : i < cols.length) (g : k (.dat (cD (colAt cols i)))) : IxQ x (.dat (.int (i : Nat))) k := by
  rcases h with rfl | rfl
  · exact ixq_lst rfl (atI_nat (col_d hi)) g
  · exact ixq_tup (atI_nat (col_d hi)) g
theorem len_cols {x : Res} {cols : List Col} {k : Res → Prop} (h : isCols x cols) (g : k (.dat (.int (cols.length : Nat)))) : LenP [x] k := by
  have e : (cols.map cD).length = cols.length := List.length_map _
  rw [← e] at g
  rcases h with rfl | rfl
  · exact LenP.lst rfl g
  · exact LenP.tup g
def seatC (s : Int) (ps : List Lamp) (i : Nat) : Col := ((ps.map (·.x)).getD i 0, (((rowsOf s (ps.map (·.x))).getD i 0 : Nat) : Int) * s)
def seatsC (s : Int) (ps : List Lamp) : List Col := (List.range ps.length).map (seatC s ps)
theorem seatsC_d (s : Int) (ps : List Lamp) : (List.range ps.length).map (seatD s ps) = (seatsC s ps).map cD := by
  unfold seatsC
  rw [List.map_map]
  rfl
theorem seatsC_len (s : Int) (ps : List Lamp) : (seatsC s ps).length = ps.length := by unfold seatsC; rw [List.length_map, List.length_range]
def spT_seats : List Res → (List PyData → Prop) → Prop := fun rs k => ∃ (ps : List Lamp) (s : Int), rs = [.dat (.tuple (ps.map lampD)), .dat (.int s)] ∧ ps.length ≤ 20 ∧ (-1000000 < s ∧ s < 1000000) ∧ (ps.map (·.x)).Pairwise (· ≤ ·) ∧ k ((seatsC s ps).map cD)
/-- where a column stands first -/
def AtIs (cs : List Col) (c : Col) : Option Nat → Prop
  | none => ∀ d ∈ cs, d ≠ c
  | some i => cs[i]? = some c ∧ ∀ m : Nat, m < i → cs[m]? ≠ some c
def atD : Option Nat → PyData
  | none => .none
  | some i => .int (i : Nat)
def sp_lamp : ASp := fun rs k => ∃ (ps : List Lamp) (s : Int) (c : Col), rs = [.dat (.tuple (ps.map lampD)), .dat (.int s), .dat (cD c)] ∧ ps.length ≤ 20 ∧ (-1000000 < s ∧ s < 1000000) ∧ (ps.map (·.x)).Pairwise (· ≤ ·) ∧ ∀ r, AtIs (seatsC s ps) c r → k (.dat (atD r))
def sp_depth : ASp := fun rs k => ∃ (ps : List Lamp) (s : Int), rs = [.dat (.tuple (ps.map lampD)), .dat (.int s)] ∧ ps.length ≤ 20 ∧ (-1000000 < s ∧ s < 1000000) ∧ (ps.map (·.x)).Pairwise (· ≤ ·) ∧
  ∀ m, m ∈ 0 :: (seatsC s ps).map (·.2) → (∀ y ∈ 0 :: (seatsC s ps).map (·.2), y ≤ m) → k (.dat (.int m))
theorem eqv_col (a b : Col) : PyData.eqv (cD a) (cD b) = decide (a = b) := by
  obtain ⟨a1, a2⟩ := a
  obtain ⟨b1, b2⟩ := b
  unfold cD
  simp only [PyData.eqv, PyData.eqvAll, eqv_int]
  by_cases h1 : a1 = b1
  · by_cases h2 : a2 = b2
    · simp [h1, h2, eqv_int]
    · simp [h1, h2, eqv_int]
  · simp [h1, eqv_int]
theorem laid_col (c : Col) : PyData.canLay0 (cD c) = true ∧ PyData.depth (cD c) ≤ 1 := by
  unfold cD
  simp [PyData.canLay0, PyData.canLayAll0, PyData.depth, PyData.depthAll]
theorem sh_col (c : Col) : SeqAt.shaped (cD c) = true := by
  unfold SeqAt.shaped
  rw [(laid_col c).1, Bool.true_and]
  have := (laid_col c).2
  exact decide_eq_true (by omega)
theorem sh_cols (cs : List Col) : SeqAt.shaped (.tuple (cs.map cD)) = true := sh_tup 1 (by decide) fun d hd => by
  obtain ⟨c, _, rfl⟩ := List.mem_map.mp hd
  exact laid_col c
def sp_dot : ASp := fun rs k => ∃ w : Int, rs = [.bag, .dat (.int w)] ∧ (0 < w ∧ w < 1000) ∧ ∀ c : Col, (-w ≤ c.1 ∧ c.1 ≤ w) → (-w ≤ c.2 ∧ c.2 ≤ w) → k (.dat (cD c))
def sp_shades : ASp := fun rs k => rs = [.bag] ∧ ∀ d, k (.dat d)
def Pt (m : List Int) : Prop := ∃ x z : Int, m = [x, z] ∧ (0 ≤ x ∧ x < 64) ∧ (0 ≤ z ∧ z < 64)
def sp_shape : ASp := fun rs k => ∃ cs : List (List Int), rs = [.bor (cs.map tupD)] ∧ cs.length < 64 ∧ (∀ c ∈ cs, Pt c) ∧ ∀ ms : List (List Int), (∀ m ∈ ms, m ∈ cs) → ms.length ≤ cs.length → ms.Pairwise (fun q r => q.getD 0 0 ≤ r.getD 0 0) → k (.dat (.tuple (ms.map tupD)))
def Bp (l : Lamp) : Prop := (-100 ≤ l.x ∧ l.x ≤ 100) ∧ (0 ≤ l.z ∧ l.z ≤ 100)
def sp_pic : ASp := fun rs k => rs = [.bag] ∧ ∀ ps : List Lamp, ps.length ≤ 14 → (ps.map (·.x)).Pairwise (· ≤ ·) → (∀ l ∈ ps, Bp l) → k (.dat (.tuple (ps.map lampD)))
def couplesOf (cols : List Col) (n : Nat) : List (List Int) := (List.range n).flatMap fun j => (List.range j).map fun i => tripL cols i j
def sp_couples : ASp := fun rs k => ∃ (x : Res) (cols : List Col), rs = [x] ∧ isCols x cols ∧ cols.length ≤ 20 ∧ (∀ c ∈ cols, Bc c) ∧ k (.fresh ((couplesOf cols cols.length).map tupD))
theorem couples_le (cols : List Col) : ∀ n, (couplesOf cols n).length ≤ n * n
  | 0 => by simp [couplesOf]
  | n + 1 => by
    have h := couples_le cols n
    unfold couplesOf at *
    rw [List.range_succ, List.flatMap_append, List.length_append]
    simp only [List.flatMap_cons, List.flatMap_nil, List.append_nil, List.length_map, List.length_range]
    rw [Nat.add_mul, Nat.mul_add]
    omega
theorem couples_mem (cols : List Col) (n : Nat) (y : List Int) : y ∈ couplesOf cols n ↔ ∃ i j : Nat, i < j ∧ j < n ∧ y = tripL cols i j := by
  unfold couplesOf
  rw [List.mem_flatMap]
  constructor
  · rintro ⟨j, hj, hy⟩
    obtain ⟨i, hi, rfl⟩ := List.mem_map.mp hy
    exact ⟨i, j, List.mem_range.mp hi, List.mem_range.mp hj, rfl⟩
  · rintro ⟨i, j, h1, h2, rfl⟩
    exact ⟨j, List.mem_range.mpr h2, List.mem_map.mpr ⟨i, List.mem_range.mpr h1, rfl⟩⟩
theorem nodup_le : ∀ {l D : List (List Int)}, l.Nodup → (∀ x ∈ l, x ∈ D) → l.length ≤ D.length
  | [], _, _, _ => Nat.zero_le _
  | x :: l, D, hn, hs => by
    obtain ⟨h1, h2⟩ := List.nodup_cons.mp hn
    have hx : x ∈ D := hs x List.mem_cons_self
    have ih := nodup_le (D := D.erase x) h2 fun y hy => (List.mem_erase_of_ne fun e => h1 (by rw [← e]; exact hy)).mpr (hs y (List.mem_cons_of_mem _ hy))
    have e := List.length_erase_of_mem hx
    have hp : 0 < D.length := List.length_pos_of_mem hx
    rw [List.length_cons]
    omega
theorem lamps_of (hh : Int) : ∀ (ms : List (List Int)) (out : List PyData), out.length = ms.length → (∀ (i : Nat) (m : List Int) (e : PyData), ms[i]? = some m → out[i]? = some e → ∃ l : Lamp, e = lampD l ∧ l.x = m.getD 0 0 - hh ∧ l.z = m.getD 1 0) →
    ∃ ps : List Lamp, out = ps.map lampD ∧ ps.map (·.x) = ms.map (fun m => m.getD 0 0 - hh) ∧ ps.map (·.z) = ms.map (fun m => m.getD 1 0)
  | [], [], _, _ => ⟨[], rfl, rfl, rfl⟩
  | [], _ :: _, h, _ => by simp at h
  | _ :: _, [], h, _ => by simp at h
  | m :: ms, e :: out, h, f => by
    obtain ⟨l, h1, h2, h3⟩ := f 0 m e rfl rfl
    obtain ⟨ps, g1, g2, g3⟩ := lamps_of hh ms out (by simpa using h) fun i m' e' a b => f (i + 1) m' e' (by simpa using a) (by simpa using b)
    exact ⟨l :: ps, by rw [h1, g1]; rfl, by rw [List.map_cons, List.map_cons, h2, g2], by rw [List.map_cons, List.map_cons, h3, g3]⟩
theorem rows_apart (s : Int) (xs : List Int) (hw : xs.Pairwise (· ≤ ·)) : ∀ n, n ≤ xs.length → ∃ fs, RS s (xs.take n) fs ∧ ∀ k j : Nat, k < j → j < n → fs.getD k 0 = fs.getD j 0 → s ≤ xs.getD j 0 - xs.getD k 0
  | 0, _ => ⟨[], ⟨[], rfl, ri_nil⟩, fun k j _ h => absurd h (Nat.not_lt_zero j)⟩
  | n + 1, hn => by
    obtain ⟨fs, h1, h2⟩ := rows_apart s xs hw n (by omega)
    have hl : (xs.take n).length = n := by rw [List.length_take]; omega
    have fl : fs.length = n := by
      obtain ⟨_, _, z⟩ := h1
      rw [z.len, hl]
    have tk : ∀ k : Nat, k < n → (xs.take n).getD k 0 = xs.getD k 0 := fun k hk => by rw [List.getD_eq_getElem?_getD, List.getElem?_take_of_lt hk, List.getD_eq_getElem?_getD]
    have nx : xs.take (n + 1) = xs.take n ++ [xs.getD n 0] := by
      rw [List.take_add_one, List.getD_eq_getElem?_getD, List.getElem?_eq_getElem (by omega)]
      rfl
    have asc : ∀ k : Nat, k < (xs.take n).length → (xs.take n).getD k 0 ≤ xs.getD n 0 := fun k hk => by
      rw [hl] at hk
      rw [tk k hk, List.getD_eq_getElem?_getD, List.getD_eq_getElem?_getD, List.getElem?_eq_getElem (by omega), List.getElem?_eq_getElem (show n < xs.length by omega)]
      exact List.pairwise_iff_getElem.mp hw k n (by omega) (by omega) hk
    obtain ⟨r, r1, r2⟩ := rs_step (xs.getD n 0) asc h1
    refine ⟨fs ++ [r], by rw [nx]; exact r1, fun k j hkj hj e => ?_⟩
    have gl : ∀ q : Nat, q < n → (fs ++ [r]).getD q 0 = fs.getD q 0 := fun q hq => by rw [getD_append, if_pos (by omega)]
    by_cases hjn : j < n
    · rw [gl k (by omega), gl j hjn] at e
      exact h2 k j hkj hjn e
    · have ej : j = n := by omega
      subst ej
      have gr : (fs ++ [r]).getD j 0 = r := by
        rw [getD_append, if_neg (by omega), fl, Nat.sub_self]
        rfl
      rw [gl k hkj, gr] at e
      have hd := r2 (fun q => decide (¬ ∃ k : Nat, k < (xs.take j).length ∧ fs.getD k 0 = q ∧ xs.getD j 0 - (xs.take j).getD k 0 < s)) fun q => by rw [decide_eq_true_eq]
      have hm := List.mem_filter.mp (List.mem_of_mem_head? hd)
      have hno := of_decide_eq_true hm.2
      refine Int.not_lt.mp fun hlt => hno ⟨k, by rw [hl]; exact hkj, e, ?_⟩
      rw [tk k hkj]
      exact hlt
theorem sq_of_abs {a s : Int} (hs : 0 ≤ s) (h : s ≤ a) : s * s ≤ a * a := Int.mul_le_mul h h hs (by omega)
theorem sq_of_ne {d s : Int} (hs : 0 ≤ s) (h : d ≠ 0) : s * s ≤ (d * s) * (d * s) := by
  have e : (d * s) * (d * s) = (d * d) * (s * s) := by grind
  have h1 : 0 < d * d := by
    rcases Int.lt_or_gt_of_ne h with g | g
    · exact Int.mul_pos_of_neg_of_neg g g
    · exact Int.mul_pos g g
  have h2 : 0 ≤ s * s := Int.mul_nonneg hs hs
  rw [e]
  have := Int.mul_le_mul_of_nonneg_right (show 1 ≤ d * d by omega) h2
  omega
theorem sq_nonneg (a : Int) : 0 ≤ a * a := by
  rcases Int.le_total 0 a with h | h
  · exact Int.mul_nonneg h h
  · exact Int.mul_nonneg_of_nonpos_of_nonpos h h
/-- seats stand apart -/
theorem seats_apart {s : Int} {ps : List Lamp} (hs : 0 ≤ s) (hw : (ps.map (·.x)).Pairwise (· ≤ ·)) {i j : Nat} (hij : i < j) (hj : j < ps.length) : ¬ closeC (seatsC s ps) s i j := by
  have hlen : (ps.map (·.x)).length = ps.length := List.length_map _
  obtain ⟨fs, ⟨last, e1, _⟩, h2⟩ := rows_apart s (ps.map (·.x)) hw ps.length (by omega)
  rw [List.take_of_length_le (by omega)] at e1
  have er : rowsOf s (ps.map (·.x)) = fs := by unfold rowsOf; rw [e1]
  have at_ : ∀ k, k < ps.length → colAt (seatsC s ps) k = ((ps.map (·.x)).getD k 0, ((fs.getD k 0 : Nat) : Int) * s) := fun k hk => by
    unfold colAt seatsC
    rw [List.getD_eq_getElem?_getD, List.getElem?_map, List.getElem?_range hk]
    show seatC s ps k = _
    unfold seatC
    rw [er]
  unfold closeC sqAt sq
  rw [at_ i (by omega), at_ j hj]
  dsimp only
  have h := h2 i j hij hj
  generalize (ps.map (·.x)).getD i 0 = x at *
  generalize (ps.map (·.x)).getD j 0 = y at *
  generalize fs.getD i 0 = a at *
  generalize fs.getD j 0 = b at *
  by_cases e : a = b
  · subst e
    have q := sq_of_abs hs (h rfl)
    have e2 : (x - y) * (x - y) = (y - x) * (y - x) := by grind
    have e3 := sq_nonneg ((a : Int) * s - (a : Int) * s)
    omega
  · have q := sq_of_ne (d := (a : Int) - (b : Int)) hs (by omega)
    have e2 : (a : Int) * s - (b : Int) * s = ((a : Int) - (b : Int)) * s := by grind
    have e3 := sq_nonneg (x - y)
    rw [e2]
    omega
theorem seat_own {s : Int} {ps : List Lamp} (hs : 1 ≤ s) (hw : (ps.map (·.x)).Pairwise (· ≤ ·)) {i : Nat} (hi : i < ps.length) {c : Col} (hc : (seatsC s ps)[i]? = some c) : ∀ {r : Option Nat}, AtIs (seatsC s ps) c r → r = some i
  | none, h => absurd rfl (h c (List.mem_of_getElem? hc))
  | some m, ⟨h1, h2⟩ => by
    have hl := seatsC_len s ps
    have hm : m < ps.length := by rw [← hl]; exact (List.getElem?_eq_some_iff.mp h1).1
    have ca : ∀ k, (seatsC s ps)[k]? = some c → colAt (seatsC s ps) k = c := fun k e => by
      unfold colAt
      rw [List.getD_eq_getElem?_getD, e]
      rfl
    have far : ∀ a b, a < b → b < ps.length → (seatsC s ps)[a]? = some c → (seatsC s ps)[b]? = some c → False := fun a b hab hb ea eb => by
      refine seats_apart (s := s) (ps := ps) (by omega) hw hab hb ?_
      unfold closeC sqAt sq
      rw [ca a ea, ca b eb]
      have h0 : 0 < s * s := Int.mul_pos (by omega) (by omega)
      have e1 : c.1 - c.1 = 0 := by omega
      have e2 : c.2 - c.2 = 0 := by omega
      rw [e1, e2]
      omega
    by_cases e1 : m < i
    · exact (far m i e1 hi h1 hc).elim
    · by_cases e2 : i < m
      · exact (far i m e2 hm hc h1).elim
      · rw [show m = i by omega]
theorem at_one {cs : List Col} {c : Col} : ∀ {r t : Option Nat}, AtIs cs c r → AtIs cs c t → r = t
  | none, none, _, _ => rfl
  | none, some i, h, ⟨h1, _⟩ => absurd rfl (h c (List.mem_of_getElem? h1))
  | some i, none, ⟨h1, _⟩, h => absurd rfl (h c (List.mem_of_getElem? h1))
  | some i, some j, ⟨h1, h2⟩, ⟨g1, g2⟩ => by
    by_cases e1 : i < j
    · exact absurd h1 (g2 i e1)
    · by_cases e2 : j < i
      · exact absurd g1 (h2 j e2)
      · rw [show i = j by omega]
theorem near_seats {s : Int} {ps : List Lamp} (hs : 0 ≤ s) (hw : (ps.map (·.x)).Pairwise (· ≤ ·)) {r : Option (Nat × Nat)} (h : NearIs (seatsC s ps).length (closeC (seatsC s ps) s) r) : r = none := by
  refine near_one h (t := none) fun i j h1 h2 => ?_
  rw [seatsC_len] at h2
  exact seats_apart hs hw h1 h2
def sp_law : ASp := fun rs k => ∃ ns : List Int, rs = [.bor (ns.map .int)] ∧ ns.length ≤ 63 ∧ k (.dat (.bool true))
theorem law_true (ns : List Int) (hl : ns.length ≤ 63) (_ : ∀ z ∈ ns, Builtin.Int.intBits z ≤ 1048576) : sp_law [.bor (ns.map .int)] fun r => r = .dat (.bool true) := ⟨ns, rfl, hl, rfl⟩
def Bk (c : Col) : Prop := (-100 ≤ c.1 ∧ c.1 ≤ 100) ∧ (-100 ≤ c.2 ∧ c.2 ≤ 100)
theorem Bk.bc {c : Col} (h : Bk c) : Bc c := by
  obtain ⟨h1, h2⟩ := h
  exact ⟨⟨by omega, by omega⟩, by omega, by omega⟩
theorem sq_lt {a b : Col} (ha : Bk a) (hb : Bk b) : (sq a b).natAbs < 10 ^ 6 := by
  obtain ⟨⟨a1, a2⟩, a3, a4⟩ := ha
  obtain ⟨⟨b1, b2⟩, b3, b4⟩ := hb
  unfold sq
  have h1 : ((a.1 - b.1) * (a.1 - b.1)).natAbs < 201 * 201 := by rw [Int.natAbs_mul]; exact Nat.mul_lt_mul'' (by omega) (by omega)
  have h2 : ((a.2 - b.2) * (a.2 - b.2)).natAbs < 201 * 201 := by rw [Int.natAbs_mul]; exact Nat.mul_lt_mul'' (by omega) (by omega)
  omega
theorem small_i {i : Int} (h : i.natAbs < 10 ^ 7) : Small 8 0 (.int i) := small_int 7 (by decide) (by decide) h
theorem small_near {n : Nat} {cl : Nat → Nat → Prop} (hn : n ≤ 20) : ∀ {r : Option (Nat × Nat)}, NearIs n cl r → Small 23 1 (nearD r)
  | none, _ => small_none.mono (by decide) (by decide)
  | some (i, j), ⟨h1, h2, _⟩ => by
    refine (small_tup (L := 8) (D := 0) 2 (by simp) fun x hx => ?_).mono (by decide) (by decide)
    simp only [List.mem_cons, List.not_mem_nil, or_false] at hx
    rcases hx with rfl | rfl
    · exact small_i (by omega)
    · exact small_i (by omega)
theorem small_best {cols : List Col} (hn : cols.length ≤ 20) (hb : ∀ c ∈ cols, Bk c) : ∀ {r : Option (List Int)}, BestIs cols.length (tripL cols) r → Small 40 1 (optD r)
  | none, _ => small_none.mono (by decide) (by decide)
  | some c, ⟨⟨i, j, h1, h2, h3⟩, _⟩ => by
    subst h3
    have q := sq_lt (hb _ (col_mem (show i < cols.length by omega))) (hb _ (col_mem h2))
    refine (small_tup (L := 8) (D := 0) 3 (by simp [tripL]) fun x hx => ?_).mono (by decide) (by decide)
    simp only [tripL, List.map_cons, List.map_nil, List.mem_cons, List.not_mem_nil, or_false] at hx
    rcases hx with rfl | rfl | rfl
    · exact small_i (by unfold sqAt; omega)
    · exact small_i (by omega)
    · exact small_i (by omega)
/-- seats are not far -/
theorem seat_bk {s : Int} {ps : List Lamp} (hs : 0 ≤ s ∧ s ≤ 30) (hl : ps.length ≤ 14) (hw : (ps.map (·.x)).Pairwise (· ≤ ·)) (hb : ∀ l ∈ ps, Bp l) : ∀ c ∈ seatsC s ps, (-100 ≤ c.1 ∧ c.1 ≤ 100) ∧ (0 ≤ c.2 ∧ c.2 ≤ 420) := by
  intro c hc
  have hlen : (ps.map (·.x)).length = ps.length := List.length_map _
  obtain ⟨fs, ⟨last, e1, ri⟩, _⟩ := rows_apart s (ps.map (·.x)) hw ps.length (by omega)
  rw [List.take_of_length_le (by omega)] at e1 ri
  have er : rowsOf s (ps.map (·.x)) = fs := by unfold rowsOf; rw [e1]
  unfold seatsC at hc
  obtain ⟨i, hi, rfl⟩ := List.mem_map.mp hc
  have hi := List.mem_range.mp hi
  unfold seatC
  rw [er]
  have h1 := (ri.low i (by omega)).1
  have h2 := ri.few
  have hx : (ps.map (·.x)).getD i 0 ∈ ps.map (·.x) := by
    rw [List.getD_eq_getElem?_getD, List.getElem?_eq_getElem (by omega)]
    exact List.getElem_mem _
  obtain ⟨l, hl2, e⟩ := List.mem_map.mp hx
  rw [← e]
  have := (hb l hl2).1
  generalize fs.getD i 0 = r at *
  have h3 : (r : Int) * s ≤ 14 * 30 := Int.mul_le_mul (by omega) hs.2 hs.1 (by decide)
  have h4 : 0 ≤ (r : Int) * s := Int.mul_nonneg (by omega) hs.1
  exact ⟨this, h4, by omega⟩
theorem laid_tupD (c : List Int) : PyData.canLay0 (tupD c) = true ∧ PyData.depth (tupD c) ≤ 1 := by
  have h := laid_all (n := 0) (c.map PyData.int) fun d hd => by
    obtain ⟨x, _, rfl⟩ := List.mem_map.mp hd
    exact laid_int x
  unfold tupD
  simp only [PyData.canLay0, PyData.depth, h.1, true_and]
  omega
theorem small_c {c : Col} (h : (-100 ≤ c.1 ∧ c.1 ≤ 100) ∧ (0 ≤ c.2 ∧ c.2 ≤ 420)) : Small 23 1 (cD c) := by
  obtain ⟨h1, h2⟩ := h
  refine (small_tup (L := 8) (D := 0) 2 (by simp) fun x hx => ?_).mono (by decide) (by decide)
  simp only [List.mem_cons, List.not_mem_nil, or_false] at hx
  rcases hx with rfl | rfl
  · exact small_i (by omega)
  · exact small_i (by omega)
section
variable {P : Program} {w : World} {K : PySem.W.Frag} {mg : Str → Option Value} {base : Heap}
/-! ## the bag -/
theorem ok__law_bag (T : Tp K mg)  : FnG P w K mg base CX0 1 T.f__law_bag T.fd__law_bag ["_law_script"] (spOf K sp_bag) := by
  refine fn_ok T.F__law_bag sc__law_bag (fun rs k h => ?_) fun cdv A outer s H E rs k hg hr h => ?_
  · obtain ⟨ns, rfl, _⟩ := h
    rfl
  · obtain ⟨ns, rfl, hl, hk⟩ := h
    refine ⟨_, (pss_one (ps_ret (pe_bagc (pe_lst (pa_cons pe_int (pa_cons pe_int (pa_cons pe_int (pa_cons (pe_frz (pe_lc (own := [("_law_cell", 1)]) rfl sc__law_bag.nd (qSeq K (pe_slice (qSl K) (pv 0) po_none (po_some pe_int))) (blkOk_by (N := ["_law_script", "_law_cell"]) (sc := defScope s__law_bag) (by decide +kernel)) (fun _ _ _ _ _ => (pg_name (i := 1) sc__law_bag.nd rfl (.inl rfl))) (fun _ _ _ _ _ => pts_nil) (fun _ _ _ _ _ => (pe_callB cAbs (by rfl) T.z_abs (by decide +kernel) (pa_cons (pv 1) pa_nil))))) pa_nil)))))))), ?_⟩
    show SD K _ _ [.lst (ns.map .int), .any]
    walk_at "g"
    refine lc_all (fun _ e => ∃ n : Int, e = .int n ∧ 0 ≤ n) ?_ ?_ ?_
    · exact Nat.le_trans (cut_len _ 63 (by decide)) (by decide)
    · intro i d hd
      obtain ⟨n, _, rfl⟩ := List.mem_map.mp (cut_mem hd)
      walk_at "g"
      split <;> omega
    · intro out ho hout
      obtain ⟨ms, rfl, hm⟩ := intsP out hout
      have := cut_len (ns.map PyData.int) 63 (by decide)
      walk_at "g"
      refine ⟨_, _, _, _, rfl, ?_, ⟨?_, hm⟩, rfl, hk⟩
      · exact ⟨by decide, by decide, by decide, by decide⟩
      · simpa [← ho] using this
theorem ok__law_take (T : Tp K mg)  : FnG P w K mg base CX0 1 T.f__law_take T.fd__law_take ["_law_bag_here", "_law_many"] (spOf K sp_take) := by
  refine fn_ok T.F__law_take sc__law_take (fun rs k h => ?_) fun cdv A outer s H E rs k hg hr h => ?_
  · obtain ⟨n, rfl, _⟩ := h
    rfl
  · obtain ⟨n, rfl, ⟨h1, h2⟩, hk⟩ := h
    refine ⟨_, (pss_cons (ps_if (pt_cmpR (qEqA K (hu64 hr)) (pe_ix (qIxA K) (pv 0) pe_int (fun _ _ => rfl)) pe_int (nomark _)) (pss_cons (ps_set (i := 2) sc__law_take.nd rfl (.inl rfl) (pe_ix (qIxA K) (pe_op (qAdd K) (pe_slice (qSl K) (pe_ix (qIxA K) (pv 0) pe_int (fun _ _ => rfl)) (po_some (pe_ix (qIxA K) (pv 0) pe_int (fun _ _ => rfl))) po_none) (pe_lst (pa_cons pe_int pa_nil))) pe_int (fun _ _ => rfl)))
        (pss_cons (ps_augS (pv 0) pe_int get_bag pe_int ip_add qSet)
        (pss_cons (ps_if (pt_cmpR oGe (pv 2) (pe_op oPow pe_int pe_int) (nomark _)) (pss_one (ps_asg (pv 2) (pg_sub (pv 0) pe_int qSet (fun _ => rfl)))) pss_nil)
        (pss_cons (ps_set (i := 3) sc__law_take.nd rfl (.inl rfl) (pe_op (qAdd K) (pe_op (qAdd K) (pe_op (qMulC K) (pe_ix (qIxA K) (pv 0) pe_int (fun _ _ => rfl)) pe_int) (pe_op oMod (pe_callTy cInt (by rfl) T.z_int (by decide +kernel) (pa_cons (pv 2) pa_nil)) pe_int)) (pe_op (qMulC K) pe_int (pe_ix (qIxA K) (pv 0) pe_int (fun _ _ => rfl)))))
        (pss_one (ps_asg (pe_op oMod (pe_callTy cInt (by rfl) T.z_int (by decide +kernel) (pa_cons (pv 3) pa_nil)) pe_int) (pg_sub (pv 0) pe_int qSet (fun _ => rfl)))))))) pss_nil)
        (pss_cons (ps_if (pt_cmpR oGt (pe_ix (qIxA K) (pv 0) pe_int (fun _ _ => rfl)) pe_int (nomark _)) (pss_cons (ps_set (i := 4) sc__law_take.nd rfl (.inl rfl) (pe_op oMod (pe_callTy cInt (by rfl) T.z_int (by decide +kernel) (pa_cons (pe_ix (qIxA K) (pv 0) pe_int (fun _ _ => rfl)) pa_nil)) (pv 1)))
        (pss_cons (ps_asg (pe_op qFdvA (pe_callTy cInt (by rfl) T.z_int (by decide +kernel) (pa_cons (pe_ix (qIxA K) (pv 0) pe_int (fun _ _ => rfl)) pa_nil)) (pv 1)) (pg_sub (pv 0) pe_int qSet (fun _ => rfl)))
        (pss_one (ps_ret (pv 4))))) pss_nil)
        (pss_cons (ps_set (i := 5) sc__law_take.nd rfl (.inl rfl) (pe_op oMod (pe_callTy cInt (by rfl) T.z_int (by decide +kernel) (pa_cons (pe_op (qMulC K) (pe_op (qAdd K) (pe_ix (qIxA K) (pv 0) pe_int (fun _ _ => rfl)) pe_int) pe_int) pa_nil)) pe_int))
        (pss_cons (ps_set (i := 6) sc__law_take.nd rfl (.inl rfl) (pe_op oMod (pe_callTy cInt (by rfl) T.z_int (by decide +kernel) (pa_cons (pe_op (qMulC K) (pe_op oMod (pe_callTy cInt (by rfl) T.z_int (by decide +kernel) (pa_cons (pe_op (qMulC K) (pv 5) (pv 5)) pa_nil)) pe_int) pe_int) pa_nil)) pe_int))
        (pss_one (ps_ret (pe_op oMod (pe_callTy cInt (by rfl) T.z_int (by decide +kernel) (pa_cons (pe_op qFdvA (pv 6) pe_int) pa_nil)) (pv 1)))))))), ?_⟩
    show SD K _ _ [.bag, .dat (.int n), .any, .any, .any, .any, .any]
    refine sd_join [.bag, .dat (.int n), .any, .any, .any, .any, .any] ?_ ?_
    · walk_at "g"
      refine Br.dec (fun hz => ?_) fun hz => ?_
      · walk_at "g"
        rename_i ns hns b hb
        obtain ⟨ms, hms, hm⟩ := cut_ints ns (some b) none
        have hlen := cut_le (ns.map PyData.int) (some b) none
        rw [List.length_map] at hlen
        refine AddP.lst rfl rfl (Nat.le_trans (Nat.add_le_add_right (Nat.le_trans hlen hns.1) 1) (by decide)) ?_
        rw [hms]
        obtain ⟨c, hc, h0⟩ := cell_first ms hns.2 hm
        walk_at "g"
        refine ixq_lst rfl hc ?_
        walk_at "g"
        refine sd_augBag rfl ?_
        walk_at "g"
        intro a ha
        refine ⟨Int.add_nonneg ha (by decide), ?_⟩
        refine sd_join [.bag, .dat (.int n), .dat (.int c), .any, .any, .any, .any] ?_ ?_
        · walk_at "g"
          refine Br.dec (fun hc => ?_) fun hc => ?_
          · walk_at "g"
            refine gs_subBag rfl ?_
            walk_at "g"
            exact ⟨.inl ⟨rfl, h0⟩, by walk_at "w"⟩
          · walk_at "g"
            walk_at "w"
        · walk_at "g"
          refine gs_subBag rfl ?_
          walk_at "g"
          refine ⟨.inr (.inl ⟨rfl, by omega, by omega⟩), ?_⟩
          walk_at "w"
      · walk_at "g"
        walk_at "w"
    · walk_at "g"
      refine Br.dec (fun hz => ?_) fun hz => ?_
      · walk_at "g"
        refine gs_subBag rfl ?_
        walk_at "g"
        refine ⟨.inl ⟨rfl, Int.ediv_nonneg (by omega) (by omega)⟩, ?_⟩
        walk_at "g"
        exact ⟨rfl, hk _ (Int.emod_nonneg _ (by omega)) (Int.emod_lt_of_pos _ h1)⟩
      · walk_at "g"
        exact ⟨rfl, hk _ (Int.emod_nonneg _ (by omega)) (Int.emod_lt_of_pos _ h1)⟩
theorem ok__law_some (T : Tp K mg) (G__law_take : FnG P w K mg base CX0 1 T.f__law_take T.fd__law_take ["_law_bag_here", "_law_many"] (spOf K sp_take)) : FnG P w K mg base CX0 2 T.f__law_some T.fd__law_some ["_law_bag_here", "_law_things"] (spOf K sp_some) := by
  refine fn_ok T.F__law_some sc__law_some (fun rs k h => ?_) fun cdv A outer s H E rs k hg hr h => ?_
  · obtain ⟨x, ds, rfl, _⟩ := h
    rfl
  · obtain ⟨x, ds, rfl, hx, ⟨hl, hz⟩, hk⟩ := h
    refine ⟨_, (pss_one (ps_ret (pe_ix (qIxA K) (pv 1) (pe_g G__law_take hg (hr.mono (by decide)) T.m__law_take T.F__law_take.kp T.b__law_take .nil pass0 (pa_cons (pv 0) (pa_cons (pe_callB (qLen K) (by rfl) T.z_len (by decide +kernel) (pa_cons (pv 1) pa_nil)) pa_nil))) (fun _ _ => rfl)))), ?_⟩
    have fin : ∀ v : Int, 0 ≤ v → v < ds.length → ∃ d, atI ds v = some d ∧ k (.dat d) := fun v h0 h1 => by
      have hv : v.toNat < ds.length := by omega
      refine ⟨_, ?_, hk v.toNat _ (List.getElem?_eq_getElem hv)⟩
      rw [← atI_nat (List.getElem?_eq_getElem hv), Int.toNat_of_nonneg h0]
    rcases hx with rfl | rfl | rfl
    · show SD K _ _ [.bag, .lst ds]
      walk_at "g"
      rename_i v h0 h1
      obtain ⟨d, hd, kd⟩ := fin v h0 h1
      exact ixq_lst rfl hd ⟨rfl, kd⟩
    · show SD K _ _ [.bag, .dat (.tuple ds)]
      walk_at "g"
      rename_i v h0 h1
      obtain ⟨d, hd, kd⟩ := fin v h0 h1
      exact ixq_tup hd ⟨rfl, kd⟩
    · show SD K _ _ [.bag, .dat (.list ds)]
      walk_at "g"
      rename_i v h0 h1
      obtain ⟨d, hd, kd⟩ := fin v h0 h1
      exact ixq_lst rfl hd ⟨rfl, kd⟩
theorem ok__law_alike (T : Tp K mg)  : FnG P w K mg base CX0 1 T.f__law_alike T.fd__law_alike ["_law_found", "_law_due"] (spOf K sp_alike) := by
  refine fn_ok T.F__law_alike sc__law_alike (fun rs k h => ?_) fun cdv A outer s H E rs k hg hr h => ?_
  · obtain ⟨x, y, ds, rfl, _⟩ := h
    rfl
  · obtain ⟨x, y, d, rfl, hx, hy, ht, hk⟩ := h
    refine ⟨_, (pss_one (ps_ret (pe_and (pe_cmpR (qEqA K (hu64 hr)) (pv 0) (pv 1) (nomark _)) (pe_one (pe_cmpR (qEqA K (hu64 hr)) (pe_callB (qRepr K hg (hu64 hr)) (by rfl) T.z_repr (by decide +kernel) (pa_cons (pv 0) pa_nil)) (pe_callB (qRepr K hg (hu64 hr)) (by rfl) T.z_repr (by decide +kernel) (pa_cons (pv 1) pa_nil)) (nomark _)))))), ?_⟩
    have he := eqv_self ht
    cases hx <;> cases hy
    all_goals
      dsimp only [entry, List.map, argSlot]
      walk_at "g"
      refine eqq_g rfl rfl ht.shaped ht.shaped ?_
      walk_at "g"
      rw [he]
      walk_at "g"
      refine .mk rfl ht ?_
      walk_at "g"
      refine .mk rfl ht ?_
      walk_at "g"
      exact ⟨rfl, by rw [decide_eq_true rfl]; exact hk⟩
theorem ok_squared (T : Tp K mg)  : FnG P w K mg base CX0 1 T.f_squared T.fd_squared ["one", "other"] (spOf K sp_sq) := by
  refine fn_ok T.F_squared sc_squared (fun rs k h => ?_) fun cdv A outer s H E rs k hg hr h => ?_
  · obtain ⟨a, b, rfl, _⟩ := h
    rfl
  · obtain ⟨⟨a, b⟩, ⟨c, d⟩, rfl, ⟨⟨b1, b2⟩, b3, b4⟩, ⟨⟨b5, b6⟩, b7, b8⟩, hk⟩ := h
    rw [← sq_swap] at hk
    dsimp only at b1 b2 b3 b4 b5 b6 b7 b8 hk
    refine ⟨_, (pss_cons (ps_par (i := 2) (j := 3) rfl sc_squared.nd rfl rfl (by decide) rfl rfl (pa_cons (pe_op oSub (pe_ix (qIxA K) (pv 1) pe_int (fun _ _ => rfl)) (pe_ix (qIxA K) (pv 0) pe_int (fun _ _ => rfl))) (pa_cons (pe_op oSub (pe_ix (qIxA K) (pv 1) pe_int (fun _ _ => rfl)) (pe_ix (qIxA K) (pv 0) pe_int (fun _ _ => rfl))) pa_nil)) rfl)
        (pss_one (ps_ret (pe_op (qAdd K) (pe_op (qMulC K) (pv 2) (pv 2)) (pe_op (qMulC K) (pv 3) (pv 3)))))), ?_⟩
    show SD K _ _ [.dat (.tuple [.int a, .int b]), .dat (.tuple [.int c, .int d]), .any, .any]
    walk_at "g"
    exact ⟨rfl, hk⟩
theorem ok__law_squared (T : Tp K mg)  : FnG P w K mg base CX0 1 T.f__law_squared T.fd__law_squared ["_law_one", "_law_other"] (spOf K sp_sq) := by
  refine fn_ok T.F__law_squared sc__law_squared (fun rs k h => ?_) fun cdv A outer s H E rs k hg hr h => ?_
  · obtain ⟨a, b, rfl, _⟩ := h
    rfl
  · obtain ⟨⟨a, b⟩, ⟨c, d⟩, rfl, ⟨⟨b1, b2⟩, b3, b4⟩, ⟨⟨b5, b6⟩, b7, b8⟩, hk⟩ := h
    dsimp only at b1 b2 b3 b4 b5 b6 b7 b8
    refine ⟨_, (pss_one (ps_ret (pe_op (qAdd K) (pe_op (qMulC K) (pe_op oSub (pe_ix (qIxA K) (pv 0) pe_int (fun _ _ => rfl)) (pe_ix (qIxA K) (pv 1) pe_int (fun _ _ => rfl))) (pe_op oSub (pe_ix (qIxA K) (pv 0) pe_int (fun _ _ => rfl)) (pe_ix (qIxA K) (pv 1) pe_int (fun _ _ => rfl)))) (pe_op (qMulC K) (pe_op oSub (pe_ix (qIxA K) (pv 0) pe_int (fun _ _ => rfl)) (pe_ix (qIxA K) (pv 1) pe_int (fun _ _ => rfl))) (pe_op oSub (pe_ix (qIxA K) (pv 0) pe_int (fun _ _ => rfl)) (pe_ix (qIxA K) (pv 1) pe_int (fun _ _ => rfl))))))), ?_⟩
    show SD K _ _ [.dat (.tuple [.int a, .int b]), .dat (.tuple [.int c, .int d])]
    walk_at "g"
    exact ⟨rfl, hk⟩
theorem ok_rows_of (T : Tp K mg)  : FnG P w K mg base CX0 1 T.f_rows_of T.fd_rows_of ["picture", "spacing"] (spOf K sp_rows) := by
  refine fn_ok T.F_rows_of sc_rows_of (fun rs k h => ?_) fun cdv A outer s H E rs k hg hr h => ?_
  · obtain ⟨ps, s, rfl, _⟩ := h
    rfl
  · obtain ⟨ps, s, rfl, hl, hk⟩ := h
    refine ⟨_, (pss_cons (ps_par (i := 2) (j := 3) rfl sc_rows_of.nd rfl rfl (by decide) rfl rfl (pa_cons (pe_lst pa_nil) (pa_cons (pe_lst pa_nil) pa_nil)) rfl)
        (pss_cons (ps_for PassesOwn.never rfl (qSeq K (pv 0)) (pg_name (i := 4) sc_rows_of.nd rfl (.inr rfl)) (pss_cons (ps_setLc (i := 6) (own := [("row", 5), ("x", 7)]) rfl sc_rows_of.nd rfl rfl (sw_true rfl rfl rfl (by decide +kernel)) (qEnum K T.z_enumerate (pa_cons (pv 2) pa_nil)) (blkOk_by (N := ["picture", "spacing", "last", "found", "lamp", "row", "free", "x"]) (sc := defScope s_rows_of) (by decide +kernel)) (fun _ _ _ _ _ => (qTup K 2 (pgs_cons (pg_name (i := 5) sc_rows_of.nd rfl (.inl rfl)) (pgs_cons (pg_name (i := 7) sc_rows_of.nd rfl (.inl rfl)) pgs_nil)))) (fun _ _ _ _ _ => (pts_one (pt_cmpR oGe (pe_op oSub (pe_ix (qIxA K) (pv 4) pe_int (fun _ _ => rfl)) (pv 7)) (pv 1) (nomark _)))) (fun _ _ _ _ _ => (pv 5)))
        (pss_cons (ps_set (i := 5) sc_rows_of.nd rfl (.inl rfl) (pe_ifExp (pt_cmpR (qNeA K (hu64 hr)) (pv 6) (pe_lst pa_nil) (nomark _)) (pe_ix (qIxA K) (pv 6) pe_int (fun _ _ => rfl)) (pe_callB (qLen K) (by rfl) T.z_len (by decide +kernel) (pa_cons (pv 2) pa_nil))))
        (pss_cons (ps_set (i := 2) sc_rows_of.nd rfl (.inl rfl) (pe_op (qAdd K) (pe_op (qAdd K) (pe_slice (qSl K) (pv 2) po_none (po_some (pv 5))) (pe_lst (pa_cons (pe_ix (qIxA K) (pv 4) pe_int (fun _ _ => rfl)) pa_nil))) (pe_slice (qSl K) (pv 2) (po_some (pe_op (qAdd K) (pv 5) pe_int)) po_none)))
        (pss_one (ps_expr (kBm K (pe_bm PySem.F.plainAttrs_list PySem.F.slot_list_append PySem.F.type_list_append mt_append (pv 3) (pa_cons (pv 5) pa_nil)))))))))
        (pss_one (ps_ret (pe_callTy (qTuple K) (by rfl) T.z_tuple (by decide +kernel) (pa_cons (pv 3) pa_nil)))))), ?_⟩
    show SD K _ _ [.dat (.tuple (ps.map lampD)), .dat (.int s), .any, .any, .any, .any, .any, .any]
    walk_at "g"
    refine forp_inv ps lampD (fun pre (a : List Int × List Nat) => a = rowSt s (pre.map (·.x)) ∧ a.1.length ≤ pre.length ∧ a.2.length = pre.length) (fun a => [.dat (.tuple (ps.map lampD)), .dat (.int s), .own (a.1.map .int), .own (a.2.map natD), .any, .any, .any, .any]) ⟨([], []), ⟨rfl, by simp, by simp⟩, by walk_at "w"⟩ ?_ ?_
    · rintro pre l post ⟨last, found⟩ hp ⟨h1, h2, h3⟩
      dsimp only at h1 h2 h3
      have hpl : pre.length < 20 := by
        have := congrArg List.length hp
        simp at this
        omega
      obtain ⟨lx, lz, lsh, lw⟩ := l
      have e1 : rowSt s ((pre ++ [(⟨lx, lz, lsh, lw⟩ : Lamp)]).map (·.x)) = (lastTo s lx last, found ++ [rowFor s lx last]) := by
        rw [List.map_append]
        show rowSt s (_ ++ [lx]) = _
        rw [rowSt_snoc, ← h1]
      show GS K _ (.dat (.tuple [.int lx, .int lz, lsh, .int lw])) _ _
      refine gs_name ?_
      dsimp only [List.set, sto]
      refine sd_mid (fun δ' => Wk δ' [.dat (.tuple (ps.map lampD)), .dat (.int s), .own (last.map .int), .own (found.map natD), .dat (.tuple [.int lx, .int lz, lsh, .int lw]), .any, .own ((fr s lx last).map natD), .any]) ?_ ?_
      · walk_at "g"
        refine ⟨_, _, rfl, rfl, ?_⟩
        refine ⟨fun i acc => acc = ((List.range i).filter fun r => decide (s ≤ lx - last.getD r 0)).map natD, rfl, ?_, ?_, ?_⟩
        · rw [enumD_len, List.length_map]
          omega
        · intro i d acc hd ha
          have hi : i < last.length := by
            have := (List.getElem?_eq_some_iff.mp hd).1
            rw [enumD_len, List.length_map] at this
            exact this
          have hd2 : (last.map PyData.int)[i]? = some (.int (last.getD i 0)) := by
            rw [List.getElem?_map, List.getD_eq_getElem?_getD, List.getElem?_eq_getElem hi]
            rfl
          rw [enumD_get hd2] at hd
          cases hd
          subst ha
          have en : ((List.range (i + 1)).filter fun r => decide (s ≤ lx - last.getD r 0)) = (List.range i).filter (fun r => decide (s ≤ lx - last.getD r 0)) ++ if s ≤ lx - last.getD i 0 then [i] else [] := by
            rw [List.range_succ, List.filter_append]
            congr 1
            by_cases h : s ≤ lx - last.getD i 0
            · rw [if_pos h]
              simp only [List.filter_cons, List.filter_nil, decide_eq_true h, if_true]
            · rw [if_neg h]
              simp only [List.filter_cons, List.filter_nil, decide_eq_false h]
              rfl
          generalize last.getD i 0 = y at *
          walk_at "g"
          refine Br.dec (fun hc => ?_) fun hc => ?_
          · walk_at "g"
            show _ = List.map natD _
            rw [en, if_pos hc, List.map_append]
            rfl
          · show _ = List.map natD _
            rw [en, if_neg hc, List.append_nil]
        · intro out ho
          rw [enumD_len, List.length_map] at ho
          subst ho
          walk_at "g"
          show Wk _ [_, _, _, _, _, _, .own (List.map natD (List.filter (fun r => decide (s ≤ lx - last.getD r 0)) (List.range last.length))), _]
          walk_at "w"
      intro δ' w
      refine sd_wk w ?_
      clear w
      refine sd_mid (fun δ' => Wk δ' [.dat (.tuple (ps.map lampD)), .dat (.int s), .own (last.map .int), .own (found.map natD), .dat (.tuple [.int lx, .int lz, lsh, .int lw]), .dat (natD (rowFor s lx last)), .any, .any]) ?_ ?_
      · unfold rowFor
        cases hfr : fr s lx last with
        | nil =>
          walk_at "g"
          refine neq_nil rfl (sh_ints _ []) ?_
          walk_at "g"
          refine Br.f ?_
          walk_at "g"
          rw [List.length_map]
          walk_at "w"
        | cons r rest =>
          walk_at "g"
          refine neq_nil rfl (sh_ints (fun r : Nat => (r : Int)) (r :: rest)) ?_
          walk_at "g"
          refine Br.t ?_
          walk_at "g"
          refine ixq_lst rfl (atI_nat (j := 0) rfl) ?_
          walk_at "g"
          walk_at "w"
      intro δ' w
      refine sd_wk w ?_
      clear w
      have hr := rowFor_le s lx last
      generalize hrf : rowFor s lx last = r at *
      unfold natD
      walk_at "g"
      rw [cut_take _ (by rw [List.length_map]; exact hr)]
      refine AddP.lst rfl rfl (by rw [List.length_take, List.length_map]; show _ + 1 ≤ sizeLine; unfold sizeLine; omega) ?_
      walk_at "g"
      rw [show ((r : Nat) : Int) + 1 = ((r + 1 : Nat) : Int) by omega, cut_drop]
      refine AddP.lst rfl rfl (by simp only [List.length_append, List.length_take, List.length_drop, List.length_map, List.length_cons, List.length_nil]; unfold sizeLine; omega) ?_
      have hfl : (found.map fun r : Nat => PyData.int (r : Int)).length < 1000000 := by rw [List.length_map]; omega
      walk_at "g"
      refine ⟨(lastTo s lx last, found ++ [r]), ⟨by rw [← e1], ?_, by simp [h3]⟩, ?_⟩
      · dsimp only [lastTo]
        rw [hrf]
        simp only [List.length_append, List.length_take, List.length_drop, List.length_cons, List.length_nil]
        omega
      · dsimp only [lastTo]
        rw [hrf, List.map_append, List.map_append, List.map_append, List.map_take, List.map_drop]
        walk_at "w"
    · rintro ⟨last, found⟩ ⟨h1, h2, h3⟩
      walk_at "g"
      refine ⟨rfl, ?_⟩
      unfold rowsOf at hk
      rw [← h1] at hk
      exact hk
theorem ok__law_rows (T : Tp K mg)  : FnG P w K mg base CX0 1 T.f__law_rows T.fd__law_rows ["_law_picture", "_law_spacing"] (spOf K sp_lrows) := by
  refine fn_ok T.F__law_rows sc__law_rows (fun rs k h => ?_) fun cdv A outer s H E rs k hg hr h => ?_
  · obtain ⟨ps, s, rfl, _⟩ := h
    rfl
  · obtain ⟨ps, s, rfl, hl, hw, hk⟩ := h
    refine ⟨_, (pss_cons (ps_set (i := 2) sc__law_rows.nd rfl (.inr rfl) (pe_lst pa_nil))
        (pss_cons (ps_for PassesOwn.never rfl (qEnum K T.z_enumerate (pa_cons (pv 0) pa_nil)) (qTup K 2 (pgs_cons (pg_name (i := 3) sc__law_rows.nd rfl (.inl rfl)) (pgs_cons (pg_name (i := 4) sc__law_rows.nd rfl (.inr rfl)) pgs_nil))) (pss_cons (ps_set (i := 5) sc__law_rows.nd rfl (.inr rfl) (pe_lc (own := [("_law_k", 6)]) rfl sc__law_rows.nd (pi_range1 (by rfl) T.z_range (pa_cons (pv 3) pa_nil)) (blkOk_by (N := ["_law_picture", "_law_spacing", "_law_found", "_law_at", "_law_lamp", "_law_barred", "_law_k", "_law_row"]) (sc := defScope s__law_rows) (by decide +kernel)) (fun _ _ _ _ _ => (pg_name (i := 6) sc__law_rows.nd rfl (.inl rfl))) (fun _ _ _ _ _ => (pts_one (pt_cmpR (qLt K (hu0 hr)) (pe_op oSub (pe_ix (qIxA K) (pv 4) pe_int (fun _ _ => rfl)) (pe_ix (qIxA K) (pe_ix (qIxA K) (pv 0) (pv 6) (fun _ _ => rfl)) pe_int (fun _ _ => rfl))) (pv 1) (nomark _)))) (fun _ _ _ _ _ => (pe_ix (qIxA K) (pv 2) (pv 6) (fun _ _ => rfl)))))
        (pss_one (ps_expr (kBm K (pe_bm PySem.F.plainAttrs_list PySem.F.slot_list_append PySem.F.type_list_append mt_append (pv 2) (pa_cons (pe_ix (qIxA K) (pe_lc (own := [("_law_row", 7)]) rfl sc__law_rows.nd (pi_range1 (by rfl) T.z_range (pa_cons (pe_op (qAdd K) (pv 3) pe_int) pa_nil)) (blkOk_by (N := ["_law_picture", "_law_spacing", "_law_found", "_law_at", "_law_lamp", "_law_barred", "_law_k", "_law_row"]) (sc := defScope s__law_rows) (by decide +kernel)) (fun _ _ _ _ _ => (pg_name (i := 7) sc__law_rows.nd rfl (.inl rfl))) (fun _ _ _ _ _ => (pts_one (pt_cmpR (qNotInA K (hu65 hr)) (pv 7) (pv 5) (by with_unfolding_all rfl)))) (fun _ _ _ _ _ => (pv 7))) pe_int (fun _ _ => rfl)) pa_nil)))))))
        (pss_one (ps_ret (pe_callTy (qTuple K) (by rfl) T.z_tuple (by decide +kernel) (pa_cons (pv 2) pa_nil)))))), ?_⟩
    show SD K _ _ [.dat (.tuple (ps.map lampD)), .dat (.int s), .any, .any, .any, .any, .any, .any]
    walk_at "g"
    refine ⟨_, _, rfl, rfl, ?_⟩
    unfold enumD
    rw [List.length_map]
    refine forp_inv (List.range ps.length) _ (fun pre (fs : List Nat) => RS s ((ps.take pre.length).map (·.x)) fs) (fun fs => [.dat (.tuple (ps.map lampD)), .dat (.int s), .own (fs.map natD), .any, .any, .any, .any, .any]) ⟨[], ⟨[], rfl, ri_nil⟩, by walk_at "w"⟩ ?_ ?_
    · intro pre i post fs hp hrs
      have hlt : pre.length < ps.length := by
        have := congrArg List.length hp
        simp at this
        omega
      have hpi : i = pre.length := by
        have : (List.range ps.length)[pre.length]? = some i := by rw [hp]; simp
        rw [List.getElem?_range hlt] at this
        exact (Option.some.inj this).symm
      subst hpi
      generalize hn : pre.length = n at *
      obtain ⟨l, hl1⟩ : ∃ l, ps[n]? = some l := ⟨ps[n], List.getElem?_eq_getElem hlt⟩
      have e0 : (ps.map lampD).getD n .none = lampD l := by rw [List.getD_eq_getElem?_getD, List.getElem?_map, hl1]; rfl
      rw [e0]
      have xs_get : ∀ k : Nat, k < n → ∃ m : Lamp, ps[k]? = some m ∧ ((ps.take n).map (·.x)).getD k 0 = m.x := by
        intro k hk
        refine ⟨ps[k], List.getElem?_eq_getElem (by omega), ?_⟩
        rw [List.getD_eq_getElem?_getD, List.getElem?_map, List.getElem?_take_of_lt hk, List.getElem?_eq_getElem (by omega)]
        rfl
      have xlen : ((ps.take n).map (·.x)).length = n := by rw [List.length_map, List.length_take]; omega
      have xnext : (ps.take (n + 1)).map (·.x) = (ps.take n).map (·.x) ++ [l.x] := by rw [List.take_add_one, hl1, List.map_append]; rfl
      have hasc : ∀ k : Nat, k < ((ps.take n).map (·.x)).length → ((ps.take n).map (·.x)).getD k 0 ≤ l.x := by
        intro k hk
        rw [xlen] at hk
        obtain ⟨m, hm, em⟩ := xs_get k hk
        rw [em]
        have h1 : (ps.map (·.x))[k]? = some m.x := by rw [List.getElem?_map, hm]; rfl
        have h2 : (ps.map (·.x))[n]? = some l.x := by rw [List.getElem?_map, hl1]; rfl
        obtain ⟨a1, a2⟩ := List.getElem?_eq_some_iff.mp h1
        obtain ⟨b1, b2⟩ := List.getElem?_eq_some_iff.mp h2
        have := List.pairwise_iff_getElem.mp hw k n a1 b1 hk
        rw [a2, b2] at this
        exact this
      obtain ⟨r, hr1, hr2⟩ := rs_step l.x hasc hrs
      rw [xlen] at hr2
      have hfl : fs.length = n := by
        obtain ⟨_, _, z⟩ := hrs
        rw [z.len, xlen]
      obtain ⟨lx, lz, lsh, lw⟩ := l
      dsimp only at hr1 hr2 xnext
      show GS K _ (.dat (.tuple [.int n, .tuple [.int lx, .int lz, lsh, .int lw]])) _ _
      generalize hX : (ps.take n).map (·.x) = X at *
      walk_at "g"
      refine ⟨by omega, by omega, ?_⟩
      rw [Int.toNat_natCast]
      have snoc : ∀ (q : Nat → Bool) (j : Nat), (List.range (j + 1)).filter q = (List.range j).filter q ++ if q j = true then [j] else [] := fun q j => by
        rw [List.range_succ, List.filter_append]
        by_cases h : q j = true
        · rw [if_pos h]
          simp only [List.filter_cons, List.filter_nil, h, if_true]
        · rw [if_neg h]
          simp only [List.filter_cons, List.filter_nil, h]
          rfl
      refine ⟨fun j acc => acc = ((List.range j).filter fun k => decide (lx - X.getD k 0 < s)).map (fun k => natD (fs.getD k 0)), rfl, by rw [rgD_len]; omega, ?_, ?_⟩
      · intro j d acc hd ha
        subst ha
        have hj : j < n := by
          have := (List.getElem?_eq_some_iff.mp hd).1
          rw [rgD_len] at this
          exact this
        rw [rgD_get hj, Int.zero_add] at hd
        cases hd
        obtain ⟨⟨mx, mz, msh, mw⟩, hm, em⟩ := xs_get j hj
        have aj : atI (ps.map lampD) ((j : Nat) : Int) = some (.tuple [.int mx, .int mz, msh, .int mw]) := atI_nat (by rw [List.getElem?_map, hm]; rfl)
        have af : atI (fs.map natD) ((j : Nat) : Int) = some (natD (fs.getD j 0)) := atI_nat (by rw [List.getElem?_map, List.getD_eq_getElem?_getD, List.getElem?_eq_getElem (by omega)]; rfl)
        walk_at "g"
        refine ixq_tup aj ?_
        walk_at "g"
        refine Br.dec (fun hc => ?_) fun hc => ?_
        · walk_at "g"
          refine ixq_lst rfl af ?_
          refine ⟨_, rfl, ?_⟩
          show _ = List.map _ _
          rw [snoc, if_pos (by rw [em]; exact decide_eq_true hc), List.map_append]
          rfl
        · show _ = List.map _ _
          rw [snoc, if_neg (by rw [em, decide_eq_false hc]; exact Bool.false_ne_true), List.append_nil]
      · intro out ho
        rw [rgD_len] at ho
        walk_at "g"
        have hfl2 : (fs.map natD).length < 1000000 := by rw [List.length_map]; omega
        have so : SeqAt.shaped (.list out) = true := by
          rw [ho]
          exact sh_ints (fun k => ((fs.getD k 0 : Nat) : Int)) _
        have hpr := hr2 (fun j => !(out.any fun z => PyData.eqv z (.int (j : Nat)))) fun j => by
          rw [Bool.not_eq_true', Bool.eq_false_iff, ne_eq, ho, List.any_map, List.any_eq_true]
          refine not_congr ⟨?_, ?_⟩
          · rintro ⟨k, hk, he⟩
            obtain ⟨h1, h2⟩ := List.mem_filter.mp hk
            refine ⟨k, List.mem_range.mp h1, ?_, of_decide_eq_true h2⟩
            have := of_decide_eq_true ((eqv_int _ _).symm.trans he)
            omega
          · rintro ⟨k, h1, h2, h3⟩
            refine ⟨k, List.mem_filter.mpr ⟨List.mem_range.mpr h1, decide_eq_true h3⟩, ?_⟩
            show PyData.eqv (.int _) (.int _) = true
            rw [eqv_int, h2]
            exact decide_eq_true rfl
        refine sd_append rfl hfl2 ?_
        walk_at "g"
        refine ⟨by omega, by omega, ?_⟩
        rw [show ((n : Int) + 1).toNat = n + 1 by omega]
        refine ⟨fun j acc => acc = ((List.range j).filter fun j => !(out.any fun z => PyData.eqv z (.int (j : Nat)))).map natD, rfl, by rw [rgD_len]; omega, ?_, ?_⟩
        · intro j d acc hd ha
          subst ha
          have hj : j < n + 1 := by
            have := (List.getElem?_eq_some_iff.mp hd).1
            rw [rgD_len] at this
            exact this
          rw [rgD_get hj, Int.zero_add] at hd
          cases hd
          walk_at "g"
          refine inq_l rfl rfl (by unfold SeqAt.shaped; simp [PyData.canLay0, PyData.depth]) so ?_
          walk_at "g"
          refine Br.var (fun hb => ?_) fun hb => ?_
          · walk_at "g"
            show _ = List.map _ _
            rw [snoc, if_pos hb, List.map_append]
            rfl
          · show _ = List.map _ _
            rw [snoc, if_neg (by rw [show (!(out.any fun z => PyData.eqv z (.int (j : Nat)))) = false from hb]; exact Bool.false_ne_true), List.append_nil]
        · intro out2 ho2
          rw [rgD_len] at ho2
          have h0 : out2[0]? = some (natD r) := by
            rw [ho2, List.getElem?_map, ← List.head?_eq_getElem?, hpr]
            rfl
          walk_at "g"
          refine ixq_lst rfl (atI_nat (j := 0) h0) ?_
          walk_at "g"
          refine ⟨fs ++ [r], ?_, by rw [List.map_append]; walk_at "w"⟩
          rw [List.length_append, hn]
          show RS s (List.map _ (List.take (n + 1) ps)) _
          rw [xnext]
          exact hr1
    · intro fs hrs
      rw [List.length_range, List.take_length] at hrs
      obtain ⟨last, e, _⟩ := hrs
      walk_at "g"
      refine ⟨rfl, ?_⟩
      unfold rowsOf at hk
      rw [e] at hk
      exact hk
theorem ok_seats_of (T : Tp K mg) (G_rows_of : FnG P w K mg base CX0 1 T.f_rows_of T.fd_rows_of ["picture", "spacing"] (spOf K sp_rows)) : FnG P w K mg base CX0 2 T.f_seats_of T.fd_seats_of ["picture", "spacing"] (spOf K sp_seats) := by
  refine fn_ok T.F_seats_of sc_seats_of (fun rs k h => ?_) fun cdv A outer s H E rs k hg hr h => ?_
  · obtain ⟨ps, s, rfl, _⟩ := h
    rfl
  · obtain ⟨ps, s, rfl, hl, hs, hw, hk⟩ := h
    refine ⟨_, (pss_one (ps_ret (pe_callTy (qTuple K) (by rfl) T.z_tuple (by decide +kernel) (pa_cons (pe_lc (own := [("lamp", 2), ("row", 3)]) rfl sc_seats_of.nd (qZip K T.z_zip (pa_cons (pv 0) (pa_cons (pe_g G_rows_of hg (hr.mono (by decide)) T.m_rows_of T.F_rows_of.kp T.b_rows_of .nil pass0 (pa_cons (pv 0) (pa_cons (pv 1) pa_nil))) pa_nil))) (blkOk_by (N := ["picture", "spacing", "lamp", "row"]) (sc := defScope s_seats_of) (by decide +kernel)) (fun _ _ _ _ _ => (qTup K 2 (pgs_cons (pg_name (i := 2) sc_seats_of.nd rfl (.inl rfl)) (pgs_cons (pg_name (i := 3) sc_seats_of.nd rfl (.inl rfl)) pgs_nil)))) (fun _ _ _ _ _ => pts_nil) (fun _ _ _ _ _ => (pe_tup (pa_cons (pe_ix (qIxA K) (pv 2) pe_int (fun _ _ => rfl)) (pa_cons (pe_frz (pe_op (qMulC K) (pv 3) (pv 1))) pa_nil))))) pa_nil)))), ?_⟩
    show SD K _ _ [.dat (.tuple (ps.map lampD)), .dat (.int s), .any, .any]
    walk_at "g"
    refine ⟨ps, s, rfl, hl, ?_⟩
    walk_at "g"
    refine ZipQ.t ?_
    have rl := rows_len s (ps.map (·.x))
    rw [List.length_map] at rl
    have zl : (zipD (ps.map lampD) ((rowsOf s (ps.map (·.x))).map natD)).length = ps.length := by
      rw [zipD_len, List.length_map, List.length_map, rl, Nat.min_self]
    refine lc_fn ((List.range ps.length).map (seatD s ps)) (by rw [zl, List.length_map, List.length_range]) (by rw [zl]; omega) ?_ ?_
    · intro i d hd
      have hi : i < ps.length := by
        have := (List.getElem?_eq_some_iff.mp hd).1
        rw [zl] at this
        exact this
      obtain ⟨⟨lx, lz, lsh, lw⟩, hl1⟩ : ∃ l, ps[i]? = some l := ⟨ps[i], List.getElem?_eq_getElem hi⟩
      have g1 : (ps.map lampD)[i]? = some (.tuple [.int lx, .int lz, lsh, .int lw]) := by rw [List.getElem?_map, hl1]; rfl
      have g2 : ((rowsOf s (ps.map (·.x))).map natD)[i]? = some (.int (((rowsOf s (ps.map (·.x))).getD i 0 : Nat) : Int)) := by
        rw [List.getElem?_map, List.getD_eq_getElem?_getD, List.getElem?_eq_getElem (by rw [rl]; exact hi)]
        rfl
      have g3 : (ps.map (·.x)).getD i 0 = lx := by rw [List.getD_eq_getElem?_getD, List.getElem?_map, hl1]; rfl
      have g4 : ((List.range ps.length).map (seatD s ps))[i]? = some (.tuple [.int lx, .int ((((rowsOf s (ps.map (·.x))).getD i 0 : Nat) : Int) * s)]) := by
        rw [List.getElem?_map, List.getElem?_range hi]
        show some (seatD s ps i) = _
        unfold seatD
        rw [g3]
      rw [zipD_get g1 g2] at hd
      cases hd
      rw [g4]
      generalize (((rowsOf s (ps.map (·.x))).getD i 0 : Nat) : Int) = r
      walk_at "g"
      rfl
    · walk_at "g"
      exact ⟨rfl, hk⟩
theorem ok__law_seats (T : Tp K mg) (G__law_rows : FnG P w K mg base CX0 1 T.f__law_rows T.fd__law_rows ["_law_picture", "_law_spacing"] (spOf K sp_lrows)) : FnG P w K mg base CX0 2 T.f__law_seats T.fd__law_seats ["_law_picture", "_law_spacing"] (spOf K sp_seats) := by
  refine fn_ok T.F__law_seats sc__law_seats (fun rs k h => ?_) fun cdv A outer s H E rs k hg hr h => ?_
  · obtain ⟨ps, s, rfl, _⟩ := h
    rfl
  · obtain ⟨ps, s, rfl, hl, hs, hw, hk⟩ := h
    refine ⟨_, (pss_one (ps_ret (pe_callTy (qTuple K) (by rfl) T.z_tuple (by decide +kernel) (pa_cons (pe_lc (own := [("_law_lamp", 2), ("_law_row", 3)]) rfl sc__law_seats.nd (qZip K T.z_zip (pa_cons (pv 0) (pa_cons (pe_g G__law_rows hg (hr.mono (by decide)) T.m__law_rows T.F__law_rows.kp T.b__law_rows .nil pass0 (pa_cons (pv 0) (pa_cons (pv 1) pa_nil))) pa_nil))) (blkOk_by (N := ["_law_picture", "_law_spacing", "_law_lamp", "_law_row"]) (sc := defScope s__law_seats) (by decide +kernel)) (fun _ _ _ _ _ => (qTup K 2 (pgs_cons (pg_name (i := 2) sc__law_seats.nd rfl (.inl rfl)) (pgs_cons (pg_name (i := 3) sc__law_seats.nd rfl (.inl rfl)) pgs_nil)))) (fun _ _ _ _ _ => pts_nil) (fun _ _ _ _ _ => (pe_tup (pa_cons (pe_ix (qIxA K) (pv 2) pe_int (fun _ _ => rfl)) (pa_cons (pe_frz (pe_op (qMulC K) (pv 3) (pv 1))) pa_nil))))) pa_nil)))), ?_⟩
    show SD K _ _ [.dat (.tuple (ps.map lampD)), .dat (.int s), .any, .any]
    walk_at "g"
    refine ⟨ps, s, rfl, hl, hw, ?_⟩
    walk_at "g"
    refine ZipQ.t ?_
    have rl := rows_len s (ps.map (·.x))
    rw [List.length_map] at rl
    have zl : (zipD (ps.map lampD) ((rowsOf s (ps.map (·.x))).map natD)).length = ps.length := by
      rw [zipD_len, List.length_map, List.length_map, rl, Nat.min_self]
    refine lc_fn ((List.range ps.length).map (seatD s ps)) (by rw [zl, List.length_map, List.length_range]) (by rw [zl]; omega) ?_ ?_
    · intro i d hd
      have hi : i < ps.length := by
        have := (List.getElem?_eq_some_iff.mp hd).1
        rw [zl] at this
        exact this
      obtain ⟨⟨lx, lz, lsh, lw⟩, hl1⟩ : ∃ l, ps[i]? = some l := ⟨ps[i], List.getElem?_eq_getElem hi⟩
      have g1 : (ps.map lampD)[i]? = some (.tuple [.int lx, .int lz, lsh, .int lw]) := by rw [List.getElem?_map, hl1]; rfl
      have g2 : ((rowsOf s (ps.map (·.x))).map natD)[i]? = some (.int (((rowsOf s (ps.map (·.x))).getD i 0 : Nat) : Int)) := by
        rw [List.getElem?_map, List.getD_eq_getElem?_getD, List.getElem?_eq_getElem (by rw [rl]; exact hi)]
        rfl
      have g3 : (ps.map (·.x)).getD i 0 = lx := by rw [List.getD_eq_getElem?_getD, List.getElem?_map, hl1]; rfl
      have g4 : ((List.range ps.length).map (seatD s ps))[i]? = some (.tuple [.int lx, .int ((((rowsOf s (ps.map (·.x))).getD i 0 : Nat) : Int) * s)]) := by
        rw [List.getElem?_map, List.getElem?_range hi]
        show some (seatD s ps i) = _
        unfold seatD
        rw [g3]
      rw [zipD_get g1 g2] at hd
      cases hd
      rw [g4]
      generalize (((rowsOf s (ps.map (·.x))).getD i 0 : Nat) : Int) = r
      walk_at "g"
      rfl
    · walk_at "g"
      exact ⟨rfl, hk⟩
theorem ok_first_near (T : Tp K mg) (G_squared : FnG P w K mg base CX0 1 T.f_squared T.fd_squared ["one", "other"] (spOf K sp_sq)) : FnG P w K mg base CX0 2 T.f_first_near T.fd_first_near ["columns", "spacing"] (spOf K sp_near) := by
  refine fn_ok T.F_first_near sc_first_near (fun rs k h => ?_) fun cdv A outer s H E rs k hg hr h => ?_
  · obtain ⟨x, cols, s, rfl, _⟩ := h
    rfl
  · obtain ⟨x, cols, s, rfl, hx, hl, hb, ⟨hs1, hs2⟩, hk⟩ := h
    refine ⟨_, (pss_cons (ps_for PassesOwn.never rfl (qEnum K T.z_enumerate (pa_cons (pv 0) pa_nil)) (qTup K 2 (pgs_cons (pg_name (i := 2) sc_first_near.nd rfl (.inl rfl)) (pgs_cons (pg_name (i := 3) sc_first_near.nd rfl (.inl rfl)) pgs_nil))) (pss_one (ps_for PassesOwn.never rfl (pi_range2 (by rfl) T.z_range (pa_cons (pe_op (qAdd K) (pv 2) pe_int) (pa_cons (pe_callB (qLen K) (by rfl) T.z_len (by decide +kernel) (pa_cons (pv 0) pa_nil)) pa_nil))) (pg_name (i := 4) sc_first_near.nd rfl (.inl rfl)) (pss_one (ps_if (pt_cmpR (qLt K (hu0 hr)) (pe_g G_squared hg (hr.mono (by decide)) T.m_squared T.F_squared.kp T.b_squared .nil pass0 (pa_cons (pv 3) (pa_cons (pe_ix (qIxA K) (pv 0) (pv 4) (fun _ _ => rfl)) pa_nil))) (pe_op (qMulC K) (pv 1) (pv 1)) (nomark _)) (pss_one (ps_ret (pe_tup (pa_cons (pv 2) (pa_cons (pv 4) pa_nil))))) pss_nil)))))
        (pss_one (ps_ret pe_non))), ?_⟩
    have hX := cols_slot hx
    show SD K _ _ [argSlot x, .dat (.int s), .any, .any, .any]
    generalize argSlot x = X at *
    walk_at "g"
    refine ⟨_, _, rfl, cols_still hx, ?_⟩
    refine forp_en _ (fun t (_ : Unit) => ∀ a b, a < t → a < b → b < cols.length → ¬ closeC cols s a b) (fun _ => [X, .dat (.int s), .any, .any, .any]) ⟨(), fun a b ha => absurd ha (Nat.not_lt_zero a), by walk_at "w"⟩ ?_ ?_
    · intro t d _ hd hI
      have ht : t < cols.length := by
        have := (List.getElem?_eq_some_iff.mp hd).1
        rw [List.length_map] at this
        exact this
      rw [col_d ht] at hd
      cases hd
      walk_at "g"
      refine len_cols hx ?_
      walk_at "g"
      refine ⟨_, _, rfl, by omega, ?_⟩
      refine forp_rg _ _ (fun u (_ : Unit) => ∀ b, t < b → b < t + 1 + u → ¬ closeC cols s t b) (fun _ => [X, .dat (.int s), .dat (.int (t : Nat)), .dat (cD (colAt cols t)), .any]) ⟨(), fun b h1 h2 => by omega, by walk_at "w"⟩ ?_ ?_
      · intro u _ hu hJ
        have hj : t + 1 + u < cols.length := by omega
        rw [show (t : Int) + 1 + (u : Nat) = ((t + 1 + u : Nat) : Int) by omega]
        generalize hjj : t + 1 + u = j at *
        walk_at "g"
        refine ixq_cols hx hj ?_
        walk_at "g"
        refine ⟨_, _, rfl, hb _ (col_mem ht), hb _ (col_mem hj), ?_⟩
        walk_at "g"
        refine Br.dec (fun hc => ?_) fun hc => ?_
        · walk_at "g"
          refine ⟨rfl, hk (some (t, j)) ⟨by omega, hj, hc, fun a b h1 h2 h3 => ?_⟩⟩
          by_cases e1 : a < t
          · exact absurd h3 (hI a b e1 h1 h2)
          · by_cases e2 : a = t
            · subst e2
              refine .inr ⟨rfl, ?_⟩
              by_cases e3 : b < j
              · exact absurd h3 (hJ b h1 (by omega))
              · omega
            · omega
        · walk_at "g"
          refine ⟨(), fun b h1 h2 => ?_, by walk_at "w"⟩
          by_cases e : b < j
          · exact hJ b h1 (by omega)
          · have e2 : b = j := by omega
            rw [e2]
            exact hc
      · intro _ hJ
        refine ⟨(), fun a b h1 h2 h3 => ?_, by walk_at "w"⟩
        by_cases e : a < t
        · exact hI a b e h2 h3
        · have e2 : a = t := by omega
          subst e2
          exact hJ b h2 (by omega)
    · intro _ hI
      walk_at "g"
      refine ⟨rfl, hk none fun i j h1 h2 => hI i j (by rw [List.length_map]; omega) h1 h2⟩
theorem ok_are_spaced (T : Tp K mg) (G_first_near : FnG P w K mg base CX0 2 T.f_first_near T.fd_first_near ["columns", "spacing"] (spOf K sp_near)) : FnG P w K mg base CX0 3 T.f_are_spaced T.fd_are_spaced ["columns", "spacing"] (spOf K sp_spaced) := by
  refine fn_ok T.F_are_spaced sc_are_spaced (fun rs k h => ?_) fun cdv A outer s H E rs k hg hr h => ?_
  · obtain ⟨x, cols, s, rfl, _⟩ := h
    rfl
  · obtain ⟨x, cols, s, rfl, hx, hl, hb, hs, hk⟩ := h
    refine ⟨_, (pss_one (ps_ret (pe_cmpR oIsNo (pe_g G_first_near hg (hr.mono (by decide)) T.m_first_near T.F_first_near.kp T.b_first_near .nil pass0 (pa_cons (pv 0) (pa_cons (pv 1) pa_nil))) pe_non (nomark _)))), ?_⟩
    have hX := cols_slot hx
    show SD K _ _ [argSlot x, .dat (.int s)]
    generalize argSlot x = X at *
    walk_at "g"
    refine ⟨argR x, cols, s, rfl, by rcases hx with rfl | rfl <;> first | exact .inl rfl | exact .inr rfl, hl, hb, hs, fun r hr => ?_⟩
    have hk2 := hk r hr
    cases r <;> (unfold nearD; walk_at "g"; exact ⟨rfl, hk2⟩)
theorem ok_closest (T : Tp K mg) (G_squared : FnG P w K mg base CX0 1 T.f_squared T.fd_squared ["one", "other"] (spOf K sp_sq)) : FnG P w K mg base CX0 2 T.f_closest T.fd_closest ["columns"] (spOf K sp_closest) := by
  refine fn_ok T.F_closest sc_closest (fun rs k h => ?_) fun cdv A outer s H E rs k hg hr h => ?_
  · obtain ⟨x, cols, rfl, _⟩ := h
    rfl
  · obtain ⟨x, cols, rfl, hx, hl, hb, hk⟩ := h
    refine ⟨_, (pss_cons (ps_set (i := 1) sc_closest.nd rfl (.inl rfl) pe_non)
        (pss_cons (ps_for PassesOwn.never rfl (qEnum K T.z_enumerate (pa_cons (pv 0) pa_nil)) (qTup K 2 (pgs_cons (pg_name (i := 2) sc_closest.nd rfl (.inl rfl)) (pgs_cons (pg_name (i := 3) sc_closest.nd rfl (.inl rfl)) pgs_nil))) (pss_one (ps_for PassesOwn.never rfl (pi_range2 (by rfl) T.z_range (pa_cons (pe_op (qAdd K) (pv 2) pe_int) (pa_cons (pe_callB (qLen K) (by rfl) T.z_len (by decide +kernel) (pa_cons (pv 0) pa_nil)) pa_nil))) (pg_name (i := 4) sc_closest.nd rfl (.inl rfl)) (pss_cons (ps_set (i := 5) sc_closest.nd rfl (.inl rfl) (pe_tup (pa_cons (pe_frz (pe_g G_squared hg (hr.mono (by decide)) T.m_squared T.F_squared.kp T.b_squared .nil pass0 (pa_cons (pv 3) (pa_cons (pe_ix (qIxA K) (pv 0) (pv 4) (fun _ _ => rfl)) pa_nil)))) (pa_cons (pv 2) (pa_cons (pv 4) pa_nil)))))
        (pss_one (ps_set (i := 1) sc_closest.nd rfl (.inl rfl) (pe_ifExp (PW.pt (pw_or (pt_cmpR oIsNo (pv 1) pe_non (nomark _)) (pw_or1 (pt_cmpR (qLt K (hu0 hr)) (pv 5) (pv 1) (nomark _))))) (pv 5) (pv 1))))))))
        (pss_one (ps_ret (pv 1))))), ?_⟩
    have hX := cols_slot hx
    show SD K _ _ [argSlot x, .any, .any, .any, .any, .any]
    generalize argSlot x = X at *
    walk_at "g"
    refine ⟨_, _, rfl, cols_still hx, ?_⟩
    refine forp_en _ (fun t (r : Option (List Int)) => Least (fun a b => a < t ∧ a < b ∧ b < cols.length) (tripL cols) r) (fun r => [X, .dat (optD r), .any, .any, .any, .any]) ⟨none, fun a b h => absurd h.1 (Nat.not_lt_zero a), by walk_at "w"⟩ ?_ ?_
    · intro t d r0 hd hI
      have ht : t < cols.length := by
        have := (List.getElem?_eq_some_iff.mp hd).1
        rw [List.length_map] at this
        exact this
      rw [col_d ht] at hd
      cases hd
      walk_at "g"
      refine len_cols hx ?_
      walk_at "g"
      refine ⟨_, _, rfl, by omega, ?_⟩
      refine forp_rg _ _ (fun u (r : Option (List Int)) => Least (fun a b => (a < t ∧ a < b ∧ b < cols.length) ∨ (a = t ∧ t < b ∧ b < t + 1 + u)) (tripL cols) r) (fun r => [X, .dat (optD r), .dat (.int (t : Nat)), .dat (cD (colAt cols t)), .any, .any]) ⟨r0, least_iff (fun a b => ⟨fun h => h.elim id fun h => by omega, .inl⟩) hI, by walk_at "w"⟩ ?_ ?_
      · intro u r hu hJ
        have hj : t + 1 + u < cols.length := by omega
        have st := least_step (W := fun a b => (a < t ∧ a < b ∧ b < cols.length) ∨ (a = t ∧ t < b ∧ b < t + 1 + (u + 1))) (i := t) (j := t + 1 + u) (fun a b => by omega) hJ
        rw [show (t : Int) + 1 + (u : Nat) = ((t + 1 + u : Nat) : Int) by omega]
        generalize hjj : t + 1 + u = j at *
        walk_at "g"
        refine ixq_cols hx hj ?_
        walk_at "g"
        refine ⟨_, _, rfl, hb _ (col_mem ht), hb _ (col_mem hj), ?_⟩
        walk_at "g"
        cases r with
        | none =>
          dsimp only [optD]
          walk_at "g"
          refine Br.t ?_
          walk_at "g"
          exact ⟨some (tripL cols t j), st, by walk_at "w"⟩
        | some c =>
          dsimp only [optD]
          walk_at "g"
          refine Br.f ?_
          walk_at "g"
          refine LtP.tup (ns := tripL cols t j) (ms := c) ?_
          walk_at "g"
          dsimp only at st
          refine Br.var (fun hb2 => ?_) fun hb2 => ?_
          · walk_at "g"
            rw [if_pos hb2] at st
            exact ⟨some (tripL cols t j), st, by walk_at "w"⟩
          · walk_at "g"
            rw [if_neg (by rw [hb2]; exact Bool.false_ne_true)] at st
            exact ⟨some c, st, by walk_at "w"⟩
      · intro r hJ
        refine ⟨r, least_iff (fun a b => by omega) hJ, by walk_at "w"⟩
    · intro r hI
      rw [List.length_map] at hI
      walk_at "g"
      refine ⟨rfl, hk r ?_⟩
      cases r with
      | none => exact fun i j h1 h2 => hI i j ⟨by omega, h1, h2⟩
      | some c =>
        obtain ⟨⟨i, j, h1, h2⟩, h3⟩ := hI
        exact ⟨⟨i, j, h1.2.1, h1.2.2, h2⟩, fun a b g1 g2 => h3 a b ⟨by omega, g1, g2⟩⟩
theorem okT_seats_of (T : Tp K mg) (G_rows_of : FnG P w K mg base CX0 1 T.f_rows_of T.fd_rows_of ["picture", "spacing"] (spOf K sp_rows)) : FnG P w K mg base CX0 2 T.f_seats_of T.fd_seats_of ["picture", "spacing"] (spOfT K spT_seats) := by
  refine fn_okT T.F_seats_of sc_seats_of (fun rs k h => ?_) fun cdv A outer s H E rs k hg hr h => ?_
  · obtain ⟨ps, s, rfl, _⟩ := h
    rfl
  · obtain ⟨ps, s, rfl, hl, hs, hw, hk⟩ := h
    refine ⟨_, (pss_one (ps_ret (pe_callTy (qTupleZ K) (by rfl) T.z_tuple (by decide +kernel) (pa_cons (pe_lc (own := [("lamp", 2), ("row", 3)]) rfl sc_seats_of.nd (qZip K T.z_zip (pa_cons (pv 0) (pa_cons (pe_g G_rows_of hg (hr.mono (by decide)) T.m_rows_of T.F_rows_of.kp T.b_rows_of .nil pass0 (pa_cons (pv 0) (pa_cons (pv 1) pa_nil))) pa_nil))) (blkOk_by (N := ["picture", "spacing", "lamp", "row"]) (sc := defScope s_seats_of) (by decide +kernel)) (fun _ _ _ _ _ => (qTup K 2 (pgs_cons (pg_name (i := 2) sc_seats_of.nd rfl (.inl rfl)) (pgs_cons (pg_name (i := 3) sc_seats_of.nd rfl (.inl rfl)) pgs_nil)))) (fun _ _ _ _ _ => pts_nil) (fun _ _ _ _ _ => (pe_tup (pa_cons (pe_ix (qIxA K) (pv 2) pe_int (fun _ _ => rfl)) (pa_cons (pe_frz (pe_op (qMulC K) (pv 3) (pv 1))) pa_nil))))) pa_nil)))), ?_⟩
    show EvC K _ [.dat (.tuple (ps.map lampD)), .dat (.int s), .any, .any] _
    walk_at "g"
    refine ⟨ps, s, rfl, hl, ?_⟩
    walk_at "g"
    refine ZipQ.t ?_
    have rl := rows_len s (ps.map (·.x))
    rw [List.length_map] at rl
    have zl : (zipD (ps.map lampD) ((rowsOf s (ps.map (·.x))).map natD)).length = ps.length := by
      rw [zipD_len, List.length_map, List.length_map, rl, Nat.min_self]
    refine lc_fn ((List.range ps.length).map (seatD s ps)) (by rw [zl, List.length_map, List.length_range]) (by rw [zl]; omega) ?_ ?_
    · intro i d hd
      have hi : i < ps.length := by
        have := (List.getElem?_eq_some_iff.mp hd).1
        rw [zl] at this
        exact this
      obtain ⟨⟨lx, lz, lsh, lw⟩, hl1⟩ : ∃ l, ps[i]? = some l := ⟨ps[i], List.getElem?_eq_getElem hi⟩
      have g1 : (ps.map lampD)[i]? = some (.tuple [.int lx, .int lz, lsh, .int lw]) := by rw [List.getElem?_map, hl1]; rfl
      have g2 : ((rowsOf s (ps.map (·.x))).map natD)[i]? = some (.int (((rowsOf s (ps.map (·.x))).getD i 0 : Nat) : Int)) := by
        rw [List.getElem?_map, List.getD_eq_getElem?_getD, List.getElem?_eq_getElem (by rw [rl]; exact hi)]
        rfl
      have g3 : (ps.map (·.x)).getD i 0 = lx := by rw [List.getD_eq_getElem?_getD, List.getElem?_map, hl1]; rfl
      have g4 : ((List.range ps.length).map (seatD s ps))[i]? = some (.tuple [.int lx, .int ((((rowsOf s (ps.map (·.x))).getD i 0 : Nat) : Int) * s)]) := by
        rw [List.getElem?_map, List.getElem?_range hi]
        show some (seatD s ps i) = _
        unfold seatD
        rw [g3]
      rw [zipD_get g1 g2] at hd
      cases hd
      rw [g4]
      generalize (((rowsOf s (ps.map (·.x))).getD i 0 : Nat) : Int) = r
      walk_at "g"
      rfl
    · rw [seatsC_d]
      exact ⟨_, rfl, hk⟩
theorem ok_lamp_at (T : Tp K mg) (G_rows_of : FnG P w K mg base CX0 1 T.f_rows_of T.fd_rows_of ["picture", "spacing"] (spOf K sp_rows)) : FnG P w K mg base CX0 3 T.f_lamp_at T.fd_lamp_at ["picture", "spacing", "column"] (spOf K sp_lamp) := by
  refine fn_ok T.F_lamp_at sc_lamp_at (fun rs k h => ?_) fun cdv A outer s H E rs k hg hr h => ?_
  · obtain ⟨ps, s, c, rfl, _⟩ := h
    rfl
  · obtain ⟨ps, s, c, rfl, hl, hs, hw, hk⟩ := h
    have G_seats_of := okT_seats_of (P := P) (w := w) (base := base) T G_rows_of
    refine ⟨_, (pss_cons (ps_set (i := 3) sc_lamp_at.nd rfl (.inl rfl) (pe_g G_seats_of hg (hr.mono (by decide)) T.m_seats_of T.F_seats_of.kp T.b_seats_of .nil pass0 (pa_cons (pv 0) (pa_cons (pv 1) pa_nil))))
        (pss_one (ps_ret (pe_ifExp (pt_cmpR (qInA K (hu65 hr)) (pv 2) (pv 3) (by with_unfolding_all rfl)) (pe_bmT K PySem.F.plainAttrs_tuple PySem.F.slot_tuple_index PySem.F.type_tuple_index (mt_idxT K (hu65 hr)) (pv 3) (pa_cons (pv 2) pa_nil)) pe_non)))), ?_⟩
    show SD K _ _ [.dat (.tuple (ps.map lampD)), .dat (.int s), .dat (cD c), .any]
    refine sd_tupIdx (i := 3) (j := 2) rfl (by decide) (by show 3 < 4; decide) (sh_col c) ?_
    walk_at "g"
    refine ⟨ps, s, rfl, hl, hs, hw, sh_cols _, fun n z h1 h2 h3 => ?_, fun h => ?_⟩
    · refine ⟨rfl, hk (some n) ⟨?_, fun m hm e => ?_⟩⟩
      · rw [List.getElem?_map] at h1
        obtain ⟨d, hd, rfl⟩ := Option.map_eq_some_iff.mp h1
        rw [eqv_col] at h2
        rw [hd, of_decide_eq_true h2]
      · have := h3 m (cD c) hm (by rw [List.getElem?_map, e]; rfl)
        rw [eqv_col] at this
        exact of_decide_eq_false this rfl
    · refine ⟨rfl, hk none fun d hd e => ?_⟩
      have := h (cD d) (List.mem_map_of_mem hd)
      rw [eqv_col] at this
      exact of_decide_eq_false this e
theorem ok_depth_of (T : Tp K mg) (G_seats_of : FnG P w K mg base CX0 2 T.f_seats_of T.fd_seats_of ["picture", "spacing"] (spOf K sp_seats)) : FnG P w K mg base CX0 3 T.f_depth_of T.fd_depth_of ["picture", "spacing"] (spOf K sp_depth) := by
  refine fn_ok T.F_depth_of sc_depth_of (fun rs k h => ?_) fun cdv A outer s H E rs k hg hr h => ?_
  · obtain ⟨ps, s, rfl, _⟩ := h
    rfl
  · obtain ⟨ps, s, rfl, hl, hs, hw, hk⟩ := h
    refine ⟨_, (pss_one (ps_ret (pe_callB (qMax1 K) (by rfl) T.z_max (by decide +kernel) (pa_cons (pe_lst (pa_cons pe_int (qStar K (pe_lc (own := [("_x", 2), ("y", 3)]) rfl sc_depth_of.nd (qSeq K (pe_g G_seats_of hg (hr.mono (by decide)) T.m_seats_of T.F_seats_of.kp T.b_seats_of .nil pass0 (pa_cons (pv 0) (pa_cons (pv 1) pa_nil)))) (blkOk_by (N := ["picture", "spacing", "_x", "y"]) (sc := defScope s_depth_of) (by decide +kernel)) (fun _ _ _ _ _ => (qTup K 2 (pgs_cons (pg_name (i := 2) sc_depth_of.nd rfl (.inl rfl)) (pgs_cons (pg_name (i := 3) sc_depth_of.nd rfl (.inl rfl)) pgs_nil)))) (fun _ _ _ _ _ => pts_nil) (fun _ _ _ _ _ => (pv 3))) pa_nil))) pa_nil)))), ?_⟩
    show SD K _ _ [.dat (.tuple (ps.map lampD)), .dat (.int s), .any, .any]
    walk_at "g"
    refine ⟨ps, s, rfl, hl, hs, hw, ?_⟩
    unfold seatsD
    rw [seatsC_d]
    walk_at "g"
    refine lc_mapc (seatsC s ps) cD (fun c => .int c.2) (by rw [seatsC_len]; omega) (fun c _ => ?_) ?_
    · obtain ⟨c1, c2⟩ := c
      unfold cD
      walk_at "g"
      rfl
    · refine ⟨_, .inl rfl, ?_⟩
      walk_at "g"
      have e : (seatsC s ps).map (fun c => PyData.int c.2) = ((seatsC s ps).map (·.2)).map PyData.int := by rw [List.map_map]; rfl
      rw [e]
      refine ⟨.int 0 :: ((seatsC s ps).map (·.2)).map .int, ?_, ?_, ?_⟩
      · show (dats (_ ++ [])).map _ = _
        rw [dats_app]
        rfl
      · simp only [List.length_cons, List.length_map, seatsC_len]
        omega
      · walk_at "g"
        exact MaxP.mk (ns := 0 :: (seatsC s ps).map (·.2)) rfl (by simp) fun m h1 h2 => ⟨rfl, hk m h1 h2⟩
theorem ok__law_dot (T : Tp K mg) (G__law_take : FnG P w K mg base CX0 1 T.f__law_take T.fd__law_take ["_law_bag_here", "_law_many"] (spOf K sp_take)) : FnG P w K mg base CX0 2 T.f__law_dot T.fd__law_dot ["_law_bag_here", "_law_wide"] (spOf K sp_dot) := by
  refine fn_ok T.F__law_dot sc__law_dot (fun rs k h => ?_) fun cdv A outer s H E rs k hg hr h => ?_
  · obtain ⟨x, rfl, _⟩ := h
    rfl
  · obtain ⟨x, rfl, ⟨h1, h2⟩, hk⟩ := h
    refine ⟨_, (pss_one (ps_ret (pe_tup (pa_cons (pe_op oSub (pe_g G__law_take hg (hr.mono (by decide)) T.m__law_take T.F__law_take.kp T.b__law_take .nil pass0 (pa_cons (pv 0) (pa_cons (pe_op (qAdd K) (pe_op (qMulC K) pe_int (pv 1)) pe_int) pa_nil))) (pv 1)) (pa_cons (pe_op oSub (pe_g G__law_take hg (hr.mono (by decide)) T.m__law_take T.F__law_take.kp T.b__law_take .nil pass0 (pa_cons (pv 0) (pa_cons (pe_op (qAdd K) (pe_op (qMulC K) pe_int (pv 1)) pe_int) pa_nil))) (pv 1)) pa_nil))))), ?_⟩
    show SD K _ _ [.bag, .dat (.int x)]
    walk_at "g"
    rename_i a a0 a1 b b0 b1
    exact ⟨rfl, hk (_, _) ⟨by dsimp only; omega, by dsimp only; omega⟩ ⟨by dsimp only; omega, by dsimp only; omega⟩⟩
theorem ok__law_shades (T : Tp K mg) (G__law_some : FnG P w K mg base CX0 2 T.f__law_some T.fd__law_some ["_law_bag_here", "_law_things"] (spOf K sp_some)) : FnG P w K mg base CX0 3 T.f__law_shades T.fd__law_shades ["_law_bag_here"] (spOf K sp_shades) := by
  refine fn_ok T.F__law_shades sc__law_shades (fun rs k h => ?_) fun cdv A outer s H E rs k hg hr h => ?_
  · obtain ⟨rfl, _⟩ := h
    rfl
  · obtain ⟨rfl, hk⟩ := h
    refine ⟨_, (pss_cons (ps_set (i := 1) sc__law_shades.nd rfl (.inr rfl) (pe_lst (pa_cons pe_str (pa_cons pe_str (pa_cons pe_str (pa_cons pe_str (pa_cons (pe_frz (pe_op (qMulC K) pe_str pe_int)) (pa_cons pe_str pa_nil))))))))
        (pss_cons (ps_set (i := 2) sc__law_shades.nd rfl (.inl rfl) (pe_callTy (qTuple K) (by rfl) T.z_tuple (by decide +kernel) (pa_cons (pe_lc (own := [("_law_turn", 3)]) rfl sc__law_shades.nd (pi_range1 (by rfl) T.z_range (pa_cons (pe_g G__law_some hg (hr.mono (by decide)) T.m__law_some T.F__law_some.kp T.b__law_some .nil pass0 (pa_cons (pv 0) (pa_cons (pe_lst (pa_cons pe_int (pa_cons pe_int (pa_cons pe_int (pa_cons pe_int (pa_cons pe_int pa_nil)))))) pa_nil))) pa_nil)) (blkOk_by (N := ["_law_bag_here", "_law_names", "_law_some_here", "_law_turn"]) (sc := defScope s__law_shades) (by decide +kernel)) (fun _ _ _ _ _ => (pg_name (i := 3) sc__law_shades.nd rfl (.inl rfl))) (fun _ _ _ _ _ => pts_nil) (fun _ _ _ _ _ => (pe_frz (pe_g G__law_some hg (hr.mono (by decide)) T.m__law_some T.F__law_some.kp T.b__law_some .nil pass0 (pa_cons (pv 0) (pa_cons (pv 1) pa_nil)))))) pa_nil)))
        (pss_one (ps_ret (pe_op (qMulC K) (pv 2) (pe_g G__law_some hg (hr.mono (by decide)) T.m__law_some T.F__law_some.kp T.b__law_some .nil pass0 (pa_cons (pv 0) (pa_cons (pe_lst (pa_cons pe_int (pa_cons pe_int (pa_cons pe_int (pa_cons pe_int pa_nil))))) pa_nil)))))))), ?_⟩
    show SD K _ _ [.bag, .any, .any, .any]
    refine sd_mid (fun δ' => ∃ ds : List PyData, 0 < ds.length ∧ ds.length < 10 ∧ Wk δ' [.bag, .own ds, .any, .any]) ?_ ?_
    · walk_at "g"
      refine MulT.s (by decide) (by decide) (by decide +kernel) (by decide +kernel) ?_
      walk_at "g"
      refine ⟨[_, _, _, _, _, _], Nat.succ_pos _, by show 6 < 10; decide, by walk_at "w"⟩
    rintro δ' ⟨ds, d0, d1, w⟩
    refine sd_wk w ?_
    clear w
    walk_at "g"
    refine some_l (fun d => ∃ n : Int, d = .int n ∧ 0 ≤ n ∧ n < 10) (fun d hd => ?_) ⟨by decide, by decide⟩ fun d hd => ?_
    · simp only [List.mem_cons, List.not_mem_nil, or_false] at hd
      rcases hd with rfl | rfl | rfl | rfl | rfl <;> exact ⟨_, rfl, by decide, by decide⟩
    obtain ⟨n, rfl, n0, n1⟩ := hd
    walk_at "g"
    refine ⟨by omega, by omega, ?_⟩
    refine lc_all (fun _ _ => True) (by rw [rgD_len]; omega) (fun i d hd => ?_) fun out ho _ => ?_
    · walk_at "g"
      refine ⟨_, _, rfl, .inl rfl, ⟨d0, by omega⟩, fun j e he => ?_⟩
      walk_at "g"
      trivial
    · rw [rgD_len] at ho
      walk_at "g"
      refine some_l (fun d => ∃ n : Int, d = .int n ∧ 0 < n ∧ n < 10) (fun d hd => ?_) ⟨by decide, by decide⟩ fun d hd => ?_
      · simp only [List.mem_cons, List.not_mem_nil, or_false] at hd
        rcases hd with rfl | rfl | rfl | rfl <;> exact ⟨_, rfl, by decide, by decide⟩
      obtain ⟨m, rfl, m0, m1⟩ := hd
      refine mult_tup m0 (by omega) (by omega) ?_
      exact ⟨rfl, hk _⟩
theorem ok__law_shape (T : Tp K mg)  : FnG P w K mg base CX0 1 T.f__law_shape T.fd__law_shape ["_law_points"] (spOf K sp_shape) := by
  refine fn_ok T.F__law_shape sc__law_shape (fun rs k h => ?_) fun cdv A outer s H E rs k hg hr h => ?_
  · obtain ⟨cs, rfl, _⟩ := h
    rfl
  · obtain ⟨cs, rfl, hl, hc, hk⟩ := h
    refine ⟨_, (pss_one (ps_ret (pe_callTy (qTuple K) (by rfl) T.z_tuple (by decide +kernel) (pa_cons (pe_callB (qSortT K P w) (by rfl) T.z_sorted (by decide +kernel) (pa_cons (pe_callTy (qSetT K P w (hu64 hr)) (by rfl) T.z_set (by decide +kernel) (pa_cons (pv 0) pa_nil)) pa_nil)) pa_nil)))), ?_⟩
    show SD K _ _ [.lst (cs.map tupD)]
    walk_at "g"
    refine ⟨cs, 2, 64, rfl, hl, by decide, fun c h => ?_, fun ms hn hm hl2 hp => ?_⟩
    · obtain ⟨x, z, rfl, h1, h2⟩ := hc c h
      refine ⟨rfl, fun y hy => ?_⟩
      simp only [List.mem_cons, List.not_mem_nil, or_false] at hy
      rcases hy with rfl | rfl <;> omega
    · walk_at "g"
      refine ⟨rfl, hk ms (fun m h => (hm m).mp h) ?_ ?_⟩
      · exact nodup_le hn fun m h => (hm m).mp h
      · refine hp.imp_of_mem fun {q r} hq hr h => ?_
        obtain ⟨x, z, rfl, h1, h2⟩ := hc q ((hm q).mp hq)
        obtain ⟨x2, z2, rfl, h3, h4⟩ := hc r ((hm r).mp hr)
        rw [code_pair, code_pair] at h
        show x ≤ x2
        omega
theorem ok__law_couples (T : Tp K mg) (G__law_squared : FnG P w K mg base CX0 1 T.f__law_squared T.fd__law_squared ["_law_one", "_law_other"] (spOf K sp_sq)) : FnG P w K mg base CX0 2 T.f__law_couples T.fd__law_couples ["_law_columns"] (spOf K sp_couples) := by
  refine fn_ok T.F__law_couples sc__law_couples (fun rs k h => ?_) fun cdv A outer s H E rs k hg hr h => ?_
  · obtain ⟨x, cols, rfl, _⟩ := h
    rfl
  · obtain ⟨x, cols, rfl, hx, hl, hb, hk⟩ := h
    refine ⟨_, (pss_cons (ps_set (i := 1) sc__law_couples.nd rfl (.inl rfl) (pe_lst pa_nil))
        (pss_cons (ps_for PassesOwn.never rfl (pi_range1 (by rfl) T.z_range (pa_cons (pe_callB (qLen K) (by rfl) T.z_len (by decide +kernel) (pa_cons (pv 0) pa_nil)) pa_nil)) (pg_name (i := 2) sc__law_couples.nd rfl (.inr rfl)) (pss_one (ps_expr (kBm K (pe_bm PySem.F.plainAttrs_list PySem.F.slot_list_extend PySem.F.type_list_extend mt_extend (pv 1) (pa_cons (pe_lc (own := [("_law_i", 3)]) rfl sc__law_couples.nd (pi_range1 (by rfl) T.z_range (pa_cons (pv 2) pa_nil)) (blkOk_by (N := ["_law_columns", "_law_found", "_law_j", "_law_i"]) (sc := defScope s__law_couples) (by decide +kernel)) (fun _ _ _ _ _ => (pg_name (i := 3) sc__law_couples.nd rfl (.inl rfl))) (fun _ _ _ _ _ => pts_nil) (fun _ _ _ _ _ => (pe_tup (pa_cons (pe_frz (pe_g G__law_squared hg (hr.mono (by decide)) T.m__law_squared T.F__law_squared.kp T.b__law_squared .nil pass0 (pa_cons (pe_ix (qIxA K) (pv 0) (pv 3) (fun _ _ => rfl)) (pa_cons (pe_ix (qIxA K) (pv 0) (pv 2) (fun _ _ => rfl)) pa_nil)))) (pa_cons (pv 3) (pa_cons (pv 2) pa_nil)))))) pa_nil))))))
        (pss_one (ps_ret (pv 1))))), ?_⟩
    have hX := cols_slot hx
    show SD K _ _ [argSlot x, .any, .any, .any]
    generalize argSlot x = X at *
    walk_at "g"
    refine len_cols hx ?_
    walk_at "g"
    refine ⟨by omega, by omega, ?_⟩
    rw [Int.toNat_natCast]
    refine forp_rg 0 cols.length (fun t (a : List (List Int)) => a = couplesOf cols t) (fun a => [X, .own (a.map tupD), .any, .any]) ⟨[], rfl, by walk_at "w"⟩ ?_ ?_
    · intro t a ht ha
      subst ha
      rw [Int.zero_add]
      have hle := couples_le cols t
      have htt : t * t ≤ 20 * 20 := Nat.mul_le_mul (by omega) (by omega)
      have e : couplesOf cols (t + 1) = couplesOf cols t ++ (List.range t).map fun i => tripL cols i t := by
        unfold couplesOf
        rw [List.range_succ, List.flatMap_append]
        simp
      refine gs_name ?_
      dsimp only [List.set, sto]
      refine sd_extend rfl ?_
      walk_at "g"
      refine ⟨by omega, by omega, ?_⟩
      rw [Int.toNat_natCast]
      unfold rgD
      refine lc_mapc (List.range t) _ (fun i => tupD (tripL cols i t)) (by rw [List.length_range]; omega) (fun i hi => ?_) ?_
      · have hi2 := List.mem_range.mp hi
        rw [Int.zero_add]
        walk_at "g"
        refine ixq_cols hx (by omega) ?_
        walk_at "g"
        refine ixq_cols hx ht ?_
        walk_at "g"
        refine ⟨_, _, rfl, hb _ (col_mem (by omega)), hb _ (col_mem ht), ?_⟩
        walk_at "g"
        rfl
      · refine ⟨_, rfl, ?_, ?_⟩
        · simp only [List.length_map, List.length_range]
          unfold sizeLine
          omega
        · refine ⟨couplesOf cols (t + 1), rfl, ?_⟩
          rw [e, List.map_append, List.map_map]
          walk_at "w"
    · rintro a rfl
      walk_at "g"
      exact ⟨rfl, hk⟩
theorem ok__law_close_picture (T : Tp K mg) (G__law_take : FnG P w K mg base CX0 1 T.f__law_take T.fd__law_take ["_law_bag_here", "_law_many"] (spOf K sp_take)) (G__law_some : FnG P w K mg base CX0 2 T.f__law_some T.fd__law_some ["_law_bag_here", "_law_things"] (spOf K sp_some)) (G__law_shades : FnG P w K mg base CX0 3 T.f__law_shades T.fd__law_shades ["_law_bag_here"] (spOf K sp_shades)) (G__law_shape : FnG P w K mg base CX0 1 T.f__law_shape T.fd__law_shape ["_law_points"] (spOf K sp_shape)) : FnG P w K mg base CX0 4 T.f__law_close_picture T.fd__law_close_picture ["_law_bag_here"] (spOf K sp_pic) := by
  refine fn_ok T.F__law_close_picture sc__law_close_picture (fun rs k h => ?_) fun cdv A outer s H E rs k hg hr h => ?_
  · obtain ⟨rfl, _⟩ := h
    rfl
  · obtain ⟨rfl, hk⟩ := h
    refine ⟨_, (pss_cons (ps_set (i := 1) sc__law_close_picture.nd rfl (.inr rfl) (pe_g G__law_some hg (hr.mono (by decide)) T.m__law_some T.F__law_some.kp T.b__law_some .nil pass0 (pa_cons (pv 0) (pa_cons (pe_lst (pa_cons pe_int (pa_cons pe_int (pa_cons pe_int (pa_cons pe_int pa_nil))))) pa_nil))))
        (pss_cons (ps_setLc (i := 2) (own := [("_law_turn", 4)]) rfl sc__law_close_picture.nd rfl rfl (sw_true rfl rfl rfl (by decide +kernel)) (pi_range1 (by rfl) T.z_range (pa_cons (pe_g G__law_some hg (hr.mono (by decide)) T.m__law_some T.F__law_some.kp T.b__law_some .nil pass0 (pa_cons (pv 0) (pa_cons (pe_lst (pa_cons pe_int (pa_cons pe_int (pa_cons pe_int (pa_cons pe_int (pa_cons pe_int pa_nil)))))) pa_nil))) pa_nil)) (blkOk_by (N := ["_law_bag_here", "_law_wide", "_law_dots", "_law_lamps", "_law_turn", "_law_x", "_law_z"]) (sc := defScope s__law_close_picture) (by decide +kernel)) (fun _ _ _ _ _ => (pg_name (i := 4) sc__law_close_picture.nd rfl (.inl rfl))) (fun _ _ _ _ _ => pts_nil) (fun _ _ _ _ _ => (pe_tup (pa_cons (pe_frz (pe_g G__law_take hg (hr.mono (by decide)) T.m__law_take T.F__law_take.kp T.b__law_take .nil pass0 (pa_cons (pv 0) (pa_cons (pv 1) pa_nil)))) (pa_cons (pe_frz (pe_g G__law_take hg (hr.mono (by decide)) T.m__law_take T.F__law_take.kp T.b__law_take .nil pass0 (pa_cons (pv 0) (pa_cons pe_int pa_nil)))) pa_nil)))))
        (pss_cons (ps_setLc (i := 3) (own := [("_law_x", 5), ("_law_z", 6)]) rfl sc__law_close_picture.nd rfl rfl (sw_true rfl rfl rfl (by decide +kernel)) (qSeq K (pe_g G__law_shape hg (hr.mono (by decide)) T.m__law_shape T.F__law_shape.kp T.b__law_shape .nil pass0 (pa_cons (pv 2) pa_nil))) (blkOk_by (N := ["_law_bag_here", "_law_wide", "_law_dots", "_law_lamps", "_law_turn", "_law_x", "_law_z"]) (sc := defScope s__law_close_picture) (by decide +kernel)) (fun _ _ _ _ _ => (qTup K 2 (pgs_cons (pg_name (i := 5) sc__law_close_picture.nd rfl (.inl rfl)) (pgs_cons (pg_name (i := 6) sc__law_close_picture.nd rfl (.inl rfl)) pgs_nil)))) (fun _ _ _ _ _ => pts_nil) (fun _ _ _ _ _ => (pe_tup (pa_cons (pe_op oSub (pv 5) (pe_op qFdvA (pv 1) pe_int)) (pa_cons (pv 6) (pa_cons (pe_frz (pe_g G__law_shades hg (hr.mono (by decide)) T.m__law_shades T.F__law_shades.kp T.b__law_shades .nil pass0 (pa_cons (pv 0) pa_nil))) (pa_cons (pe_frz (pe_g G__law_some hg (hr.mono (by decide)) T.m__law_some T.F__law_some.kp T.b__law_some .nil pass0 (pa_cons (pv 0) (pa_cons (pe_lst (pa_cons pe_int (pa_cons pe_int (pa_cons pe_int (pa_cons pe_int (pa_cons pe_int pa_nil)))))) pa_nil)))) pa_nil)))))))
        (pss_one (ps_ret (pe_callTy (qTuple K) (by rfl) T.z_tuple (by decide +kernel) (pa_cons (pv 3) pa_nil))))))), ?_⟩
    show SD K _ _ [.bag, .any, .any, .any, .any, .any, .any]
    refine sd_mid (fun δ' => ∃ wd : Int, (0 < wd ∧ wd ≤ 40) ∧ Wk δ' [.bag, .dat (.int wd), .any, .any, .any, .any, .any]) ?_ ?_
    · walk_at "g"
      refine some_l (fun d => ∃ n : Int, d = .int n ∧ 0 < n ∧ n ≤ 40) (fun d hd => ?_) ⟨by decide, by decide⟩ fun d hd => ?_
      · simp only [List.mem_cons, List.not_mem_nil, or_false] at hd
        rcases hd with rfl | rfl | rfl | rfl <;> exact ⟨_, rfl, by decide, by decide⟩
      obtain ⟨m, rfl, m0, m1⟩ := hd
      walk_at "g"
      exact ⟨m, ⟨m0, m1⟩, by walk_at "w"⟩
    rintro δ' ⟨wd, ⟨w0, w1⟩, w⟩
    refine sd_wk w ?_
    clear w
    refine sd_mid (fun δ' => ∃ cs : List (List Int), cs.length ≤ 14 ∧ (∀ c ∈ cs, Pt c) ∧ Wk δ' [.bag, .dat (.int wd), .own (cs.map tupD), .any, .any, .any, .any]) ?_ ?_
    · walk_at "g"
      refine some_l (fun d => ∃ n : Int, d = .int n ∧ 0 ≤ n ∧ n ≤ 14) (fun d hd => ?_) ⟨by decide, by decide⟩ fun d hd => ?_
      · simp only [List.mem_cons, List.not_mem_nil, or_false] at hd
        rcases hd with rfl | rfl | rfl | rfl | rfl <;> exact ⟨_, rfl, by decide, by decide⟩
      obtain ⟨m, rfl, m0, m1⟩ := hd
      walk_at "g"
      refine ⟨by omega, by omega, ?_⟩
      refine lc_all (fun _ e => ∃ c, e = tupD c ∧ Pt c) (by rw [rgD_len]; omega) (fun i d hd => ?_) fun out ho hp => ?_
      · walk_at "g"
        rename_i a a0 a1 b b0 b1
        exact ⟨[a, b], rfl, a, b, rfl, ⟨a0, by omega⟩, ⟨b0, by omega⟩⟩
      · obtain ⟨cs, rfl, hcs⟩ := mapsP tupD out hp
        rw [rgD_len, List.length_map] at ho
        walk_at "g"
        refine ⟨cs, by omega, hcs, by walk_at "w"⟩
    rintro δ' ⟨cs, c0, c1, w⟩
    refine sd_wk w ?_
    clear w
    refine sd_mid (fun δ' => ∃ ps : List Lamp, ps.length ≤ 14 ∧ (ps.map (·.x)).Pairwise (· ≤ ·) ∧ (∀ l ∈ ps, Bp l) ∧ Wk δ' [.bag, .any, .any, .own (ps.map lampD), .any, .any, .any]) ?_ ?_
    · walk_at "g"
      refine ⟨by omega, c1, fun ms m1 m2 m3 => ?_⟩
      walk_at "g"
      refine lc_all (fun i e => ∃ m, ms[i]? = some m ∧ ∃ l : Lamp, e = lampD l ∧ l.x = m.getD 0 0 - wd / 2 ∧ l.z = m.getD 1 0) (by rw [List.length_map]; omega) (fun i d hd => ?_) fun out ho hp => ?_
      · rw [List.getElem?_map] at hd
        obtain ⟨m, hm, rfl⟩ := Option.map_eq_some_iff.mp hd
        obtain ⟨x, z, rfl, hx, hz⟩ := c1 m (m1 m (List.mem_of_getElem? hm))
        unfold tupD
        dsimp only [List.map]
        walk_at "g"
        refine ⟨rfl, fun sh => ?_⟩
        walk_at "g"
        refine some_l (fun d => ∃ n : Int, d = .int n) (fun d hd => ?_) ⟨by decide, by decide⟩ fun d hd => ?_
        · simp only [List.mem_cons, List.not_mem_nil, or_false] at hd
          rcases hd with rfl | rfl | rfl | rfl | rfl <;> exact ⟨_, rfl⟩
        obtain ⟨n, rfl⟩ := hd
        walk_at "g"
        exact ⟨[x, z], hm, ⟨x - wd / 2, z, sh, n⟩, rfl, rfl, rfl⟩
      · rw [List.length_map] at ho
        obtain ⟨ps, rfl, p1, p2⟩ := lamps_of (wd / 2) ms out ho fun i m e h1 h2 => by
          obtain ⟨m', h3, l, h4⟩ := hp i e h2
          rw [h1] at h3
          cases h3
          exact ⟨l, h4⟩
        rw [List.length_map] at ho
        walk_at "g"
        refine ⟨ps, by omega, ?_, fun l hl => ?_, by walk_at "w"⟩
        · rw [p1, List.pairwise_map]
          exact m3.imp fun {a b} h => by omega
        · have hx : l.x ∈ ps.map (·.x) := List.mem_map_of_mem hl
          have hz : l.z ∈ ps.map (·.z) := List.mem_map_of_mem hl
          rw [p1] at hx
          rw [p2] at hz
          obtain ⟨a, ha, ea⟩ := List.mem_map.mp hx
          obtain ⟨b, hb, eb⟩ := List.mem_map.mp hz
          obtain ⟨x, z, rfl, q1, q2⟩ := c1 a (m1 a ha)
          obtain ⟨x2, z2, rfl, q3, q4⟩ := c1 b (m1 b hb)
          have ea' : x - wd / 2 = l.x := ea
          have eb' : z2 = l.z := eb
          exact ⟨⟨by omega, by omega⟩, by omega, by omega⟩
    rintro δ' ⟨ps, p0, p1, p2, w⟩
    refine sd_wk w ?_
    clear w
    walk_at "g"
    exact ⟨rfl, hk ps p0 p1 p2⟩
theorem ok_law (T : Tp K mg) (G__law_bag : FnG P w K mg base CX0 1 T.f__law_bag T.fd__law_bag ["_law_script"] (spOf K sp_bag)) (G__law_take : FnG P w K mg base CX0 1 T.f__law_take T.fd__law_take ["_law_bag_here", "_law_many"] (spOf K sp_take)) (G__law_some : FnG P w K mg base CX0 2 T.f__law_some T.fd__law_some ["_law_bag_here", "_law_things"] (spOf K sp_some)) (G__law_alike : FnG P w K mg base CX0 1 T.f__law_alike T.fd__law_alike ["_law_found", "_law_due"] (spOf K sp_alike)) (G__law_dot : FnG P w K mg base CX0 2 T.f__law_dot T.fd__law_dot ["_law_bag_here", "_law_wide"] (spOf K sp_dot)) (G__law_couples : FnG P w K mg base CX0 2 T.f__law_couples T.fd__law_couples ["_law_columns"] (spOf K sp_couples)) (G_first_near : FnG P w K mg base CX0 2 T.f_first_near T.fd_first_near ["columns", "spacing"] (spOf K sp_near)) (G_are_spaced : FnG P w K mg base CX0 3 T.f_are_spaced T.fd_are_spaced ["columns", "spacing"] (spOf K sp_spaced)) (G_closest : FnG P w K mg base CX0 2 T.f_closest T.fd_closest ["columns"] (spOf K sp_closest)) (G__law_close_picture : FnG P w K mg base CX0 4 T.f__law_close_picture T.fd__law_close_picture ["_law_bag_here"] (spOf K sp_pic)) (G__law_seats : FnG P w K mg base CX0 2 T.f__law_seats T.fd__law_seats ["_law_picture", "_law_spacing"] (spOf K sp_seats)) (G_seats_of : FnG P w K mg base CX0 2 T.f_seats_of T.fd_seats_of ["picture", "spacing"] (spOf K sp_seats)) (G_depth_of : FnG P w K mg base CX0 3 T.f_depth_of T.fd_depth_of ["picture", "spacing"] (spOf K sp_depth)) (G_lamp_at : FnG P w K mg base CX0 3 T.f_lamp_at T.fd_lamp_at ["picture", "spacing", "column"] (spOf K sp_lamp)) : FnG P w K mg base CX0 9 T.f_law T.fd_law ["_law_script"] (spOf K sp_law) := by
  refine fn_ok T.F_law sc_law (fun rs k h => ?_) fun cdv A outer s H E rs k hg hr h => ?_
  · obtain ⟨n, rfl, _⟩ := h
    rfl
  · obtain ⟨ns, rfl, hl, hk⟩ := h
    refine ⟨_, (pss_cons (ps_set (i := 1) sc_law.nd rfl (.inr rfl) (pe_g G__law_bag hg (hr.mono (by decide)) T.m__law_bag T.F__law_bag.kp T.b__law_bag .nil pass0 (pa_cons (pv 0) pa_nil)))
        (pss_cons (ps_for PassesOwn.never rfl (pi_range1 (by rfl) T.z_range (pa_cons pe_int pa_nil)) (pg_name (i := 2) sc_law.nd rfl (.inl rfl)) (pss_cons (ps_set (i := 3) sc_law.nd rfl (.inr rfl) (pe_g G__law_some hg (hr.mono (by decide)) T.m__law_some T.F__law_some.kp T.b__law_some .nil pass0 (pa_cons (pv 1) (pa_cons (pe_lst (pa_cons pe_int (pa_cons pe_int (pa_cons pe_int pa_nil)))) pa_nil))))
        (pss_cons (ps_setLc (i := 4) (own := [("_law_place", 14)]) rfl sc_law.nd rfl rfl (sw_true rfl rfl rfl (by decide +kernel)) (pi_range1 (by rfl) T.z_range (pa_cons (pe_g G__law_some hg (hr.mono (by decide)) T.m__law_some T.F__law_some.kp T.b__law_some .nil pass0 (pa_cons (pv 1) (pa_cons (pe_lst (pa_cons pe_int (pa_cons pe_int (pa_cons pe_int (pa_cons pe_int (pa_cons pe_int pa_nil)))))) pa_nil))) pa_nil)) (blkOk_by (N := ["_law_script", "_law_bag_here", "_law_turn", "_law_wide", "_law_columns", "_law_couples_here", "_law_spacings", "_law_spacing", "_law_near", "_law_due", "_law_told", "_law_picture", "_law_column", "_law_at", "_law_place", "_law_one", "_law_other", "_law_lamp", "_law_seat", "_law_couple", "_law_x", "_law_y"]) (sc := defScope s_law) (by decide +kernel)) (fun _ _ _ _ _ => (pg_name (i := 14) sc_law.nd rfl (.inl rfl))) (fun _ _ _ _ _ => pts_nil) (fun _ _ _ _ _ => (pe_frz (pe_g G__law_dot hg (hr.mono (by decide)) T.m__law_dot T.F__law_dot.kp T.b__law_dot .nil pass0 (pa_cons (pv 1) (pa_cons (pv 3) pa_nil))))))
        (pss_cons (ps_set (i := 4) sc_law.nd rfl (.inl rfl) (pe_op (qAdd K) (pv 4) (pe_slice (qSl K) (pv 4) po_none (po_some (pe_g G__law_some hg (hr.mono (by decide)) T.m__law_some T.F__law_some.kp T.b__law_some .nil pass0 (pa_cons (pv 1) (pa_cons (pe_lst (pa_cons pe_int (pa_cons pe_int (pa_cons pe_int (pa_cons pe_int pa_nil))))) pa_nil)))))))
        (pss_cons (ps_set (i := 5) sc_law.nd rfl (.inl rfl) (pe_g G__law_couples hg (hr.mono (by decide)) T.m__law_couples T.F__law_couples.kp T.b__law_couples .nil pass0 (pa_cons (pv 4) pa_nil)))
        (pss_cons (ps_set (i := 6) sc_law.nd rfl (.inl rfl) (pe_slice (qSl K) (pe_lst (pa_cons pe_int (pa_cons pe_int (pa_cons pe_int (pa_cons pe_int (pa_cons pe_int (pa_cons pe_int (pa_cons pe_int (pa_cons pe_int pa_nil))))))))) po_none (po_some (pe_g G__law_some hg (hr.mono (by decide)) T.m__law_some T.F__law_some.kp T.b__law_some .nil pass0 (pa_cons (pv 1) (pa_cons (pe_lst (pa_cons pe_int (pa_cons pe_int pa_nil))) pa_nil))))))
        (pss_cons (ps_set (i := 6) sc_law.nd rfl (.inl rfl) (pe_op (qAdd K) (pv 6) (pe_lc (own := [("_law_one", 15), ("_law_other", 16)]) rfl sc_law.nd (qZip K T.z_zip (pa_cons (pv 4) (pa_cons (pe_slice (qSl K) (pv 4) (po_some pe_int) po_none) pa_nil))) (blkOk_by (N := ["_law_script", "_law_bag_here", "_law_turn", "_law_wide", "_law_columns", "_law_couples_here", "_law_spacings", "_law_spacing", "_law_near", "_law_due", "_law_told", "_law_picture", "_law_column", "_law_at", "_law_place", "_law_one", "_law_other", "_law_lamp", "_law_seat", "_law_couple", "_law_x", "_law_y"]) (sc := defScope s_law) (by decide +kernel)) (fun _ _ _ _ _ => (qTup K 2 (pgs_cons (pg_name (i := 15) sc_law.nd rfl (.inl rfl)) (pgs_cons (pg_name (i := 16) sc_law.nd rfl (.inl rfl)) pgs_nil)))) (fun _ _ _ _ _ => pts_nil) (fun _ _ _ _ _ => (pe_frz (pe_op (qAdd K) (pe_callB cAbs (by rfl) T.z_abs (by decide +kernel) (pa_cons (pe_op oSub (pe_ix (qIxA K) (pv 15) pe_int (fun _ _ => rfl)) (pe_ix (qIxA K) (pv 16) pe_int (fun _ _ => rfl))) pa_nil)) pe_int))))))
        (pss_frz (pss_cons (ps_for PassesOwn.never rfl (qSeq K (pv 6)) (pg_name (i := 7) sc_law.nd rfl (.inr rfl)) (pss_cons (ps_set (i := 8) sc_law.nd rfl (.inl rfl) (pe_callB (qSortedA K) (by rfl) T.z_sorted (by decide +kernel) (pa_cons (pe_lc (own := [("_law_couple", 19)]) rfl sc_law.nd (qSeq K (pv 5)) (blkOk_by (N := ["_law_script", "_law_bag_here", "_law_turn", "_law_wide", "_law_columns", "_law_couples_here", "_law_spacings", "_law_spacing", "_law_near", "_law_due", "_law_told", "_law_picture", "_law_column", "_law_at", "_law_place", "_law_one", "_law_other", "_law_lamp", "_law_seat", "_law_couple", "_law_x", "_law_y"]) (sc := defScope s_law) (by decide +kernel)) (fun _ _ _ _ _ => (pg_name (i := 19) sc_law.nd rfl (.inl rfl))) (fun _ _ _ _ _ => (pts_one (pt_cmpR (qLt K (hu0 hr)) (pe_ix (qIxA K) (pv 19) pe_int (fun _ _ => rfl)) (pe_op (qMulC K) (pv 7) (pv 7)) (nomark _)))) (fun _ _ _ _ _ => (pe_frz (pe_slice (qSl K) (pv 19) (po_some pe_int) po_none)))) pa_nil)))
        (pss_cons (ps_set (i := 9) sc_law.nd rfl (.inl rfl) (pe_ifExp (pt_cmpR (qNeA K (hu64 hr)) (pv 8) (pe_lst pa_nil) (nomark _)) (pe_ix (qIxA K) (pv 8) pe_int (fun _ _ => rfl)) pe_non))
        (pss_cons (ps_set (i := 10) sc_law.nd rfl (.inl rfl) (pe_lst (pa_cons (pe_frz (pe_g G_first_near hg (hr.mono (by decide)) T.m_first_near T.F_first_near.kp T.b_first_near .nil pass0 (pa_cons (pv 4) (pa_cons (pv 7) pa_nil)))) (pa_cons (pe_frz (pe_g G_first_near hg (hr.mono (by decide)) T.m_first_near T.F_first_near.kp T.b_first_near .nil pass0 (pa_cons (pe_callTy (qTuple K) (by rfl) T.z_tuple (by decide +kernel) (pa_cons (pv 4) pa_nil)) (pa_cons (pv 7) pa_nil)))) (pa_cons (pe_frz (pe_g G_are_spaced hg (hr.mono (by decide)) T.m_are_spaced T.F_are_spaced.kp T.b_are_spaced .nil pass0 (pa_cons (pv 4) (pa_cons (pv 7) pa_nil)))) pa_nil)))))
        (pss_one (ps_if (pt_not (qTruth K (pe_g G__law_alike hg (hr.mono (by decide)) T.m__law_alike T.F__law_alike.kp T.b__law_alike .nil pass0 (pa_cons (pv 10) (pa_cons (pe_lst (pa_cons (pv 9) (pa_cons (pv 9) (pa_cons (pe_cmpR oIsNo (pv 9) pe_non (nomark _)) pa_nil)))) pa_nil))) (fun _ => rfl))) (pss_one (ps_ret pe_bl)) pss_nil))))))
        (pss_cons (ps_if (pt_not (qTruth K (pe_g G__law_alike hg (hr.mono (by decide)) T.m__law_alike T.F__law_alike.kp T.b__law_alike .nil pass0 (pa_cons (pe_g G_closest hg (hr.mono (by decide)) T.m_closest T.F_closest.kp T.b_closest .nil pass0 (pa_cons (pv 4) pa_nil)) (pa_cons (pe_ifExp (pt_cmpR (qNeA K (hu64 hr)) (pv 5) (pe_lst pa_nil) (nomark _)) (pe_callB (qMinA K (hu64 hr)) (by rfl) T.z_min (by decide +kernel) (pa_cons (pv 5) pa_nil)) pe_non) pa_nil))) (fun _ => rfl))) (pss_one (ps_ret pe_bl)) pss_nil)
        (pss_cons (ps_asg (pe_tup (pa_cons (pe_frz (pe_g G__law_close_picture hg (hr.mono (by decide)) T.m__law_close_picture T.F__law_close_picture.kp T.b__law_close_picture .nil pass0 (pa_cons (pv 1) pa_nil))) (pa_cons (pe_frz (pe_g G__law_some hg (hr.mono (by decide)) T.m__law_some T.F__law_some.kp T.b__law_some .nil pass0 (pa_cons (pv 1) (pa_cons (pe_lst (pa_cons pe_int (pa_cons pe_int (pa_cons pe_int (pa_cons pe_int (pa_cons pe_int pa_nil)))))) pa_nil)))) pa_nil))) (qTup K 2 (pgs_cons (pg_name (i := 11) sc_law.nd rfl (.inr rfl)) (pgs_cons (pg_name (i := 7) sc_law.nd rfl (.inr rfl)) pgs_nil))))
        (pss_cons (ps_set (i := 9) sc_law.nd rfl (.inl rfl) (pe_g G__law_seats hg (hr.mono (by decide)) T.m__law_seats T.F__law_seats.kp T.b__law_seats .nil pass0 (pa_cons (pv 11) (pa_cons (pv 7) pa_nil))))
        (pss_cons (ps_set (i := 10) sc_law.nd rfl (.inl rfl) (pe_lst (pa_cons (pe_frz (pe_g G_seats_of hg (hr.mono (by decide)) T.m_seats_of T.F_seats_of.kp T.b_seats_of .nil pass0 (pa_cons (pv 11) (pa_cons (pv 7) pa_nil)))) (pa_cons (pe_frz (pe_g G_depth_of hg (hr.mono (by decide)) T.m_depth_of T.F_depth_of.kp T.b_depth_of .nil pass0 (pa_cons (pv 11) (pa_cons (pv 7) pa_nil)))) pa_nil))))
        (pss_cons (ps_if (pt_not (qTruth K (pe_g G__law_alike hg (hr.mono (by decide)) T.m__law_alike T.F__law_alike.kp T.b__law_alike .nil pass0 (pa_cons (pv 10) (pa_cons (pe_lst (pa_cons (pv 9) (pa_cons (pe_callB (qMax1 K) (by rfl) T.z_max (by decide +kernel) (pa_cons (pe_op (qAdd K) (pe_lst (pa_cons pe_int pa_nil)) (pe_lc (own := [("_law_x", 20), ("_law_y", 21)]) rfl sc_law.nd (qSeq K (pv 9)) (blkOk_by (N := ["_law_script", "_law_bag_here", "_law_turn", "_law_wide", "_law_columns", "_law_couples_here", "_law_spacings", "_law_spacing", "_law_near", "_law_due", "_law_told", "_law_picture", "_law_column", "_law_at", "_law_place", "_law_one", "_law_other", "_law_lamp", "_law_seat", "_law_couple", "_law_x", "_law_y"]) (sc := defScope s_law) (by decide +kernel)) (fun _ _ _ _ _ => (qTup K 2 (pgs_cons (pg_name (i := 20) sc_law.nd rfl (.inl rfl)) (pgs_cons (pg_name (i := 21) sc_law.nd rfl (.inl rfl)) pgs_nil)))) (fun _ _ _ _ _ => pts_nil) (fun _ _ _ _ _ => (pv 21)))) pa_nil)) pa_nil))) pa_nil))) (fun _ => rfl))) (pss_one (ps_ret pe_bl)) pss_nil)
        (pss_cons (ps_if (pt_not (qTruth K (pe_g G_are_spaced hg (hr.mono (by decide)) T.m_are_spaced T.F_are_spaced.kp T.b_are_spaced .nil pass0 (pa_cons (pe_g G_seats_of hg (hr.mono (by decide)) T.m_seats_of T.F_seats_of.kp T.b_seats_of .nil pass0 (pa_cons (pv 11) (pa_cons (pv 7) pa_nil))) (pa_cons (pv 7) pa_nil))) (fun _ => rfl))) (pss_one (ps_ret pe_bl)) pss_nil)
        (pss_cons (ps_if (pt_not (qTruth K (pe_g G__law_alike hg (hr.mono (by decide)) T.m__law_alike T.F__law_alike.kp T.b__law_alike .nil pass0 (pa_cons (pe_lc (own := [("_law_seat", 18)]) rfl sc_law.nd (qSeq K (pv 9)) (blkOk_by (N := ["_law_script", "_law_bag_here", "_law_turn", "_law_wide", "_law_columns", "_law_couples_here", "_law_spacings", "_law_spacing", "_law_near", "_law_due", "_law_told", "_law_picture", "_law_column", "_law_at", "_law_place", "_law_one", "_law_other", "_law_lamp", "_law_seat", "_law_couple", "_law_x", "_law_y"]) (sc := defScope s_law) (by decide +kernel)) (fun _ _ _ _ _ => (pg_name (i := 18) sc_law.nd rfl (.inl rfl))) (fun _ _ _ _ _ => pts_nil) (fun _ _ _ _ _ => (pe_frz (pe_g G_lamp_at hg (hr.mono (by decide)) T.m_lamp_at T.F_lamp_at.kp T.b_lamp_at .nil pass0 (pa_cons (pv 11) (pa_cons (pv 7) (pa_cons (pv 18) pa_nil))))))) (pa_cons (qListRg T.z_list (qRg1 T.z_range (pe_callB (qLen K) (by rfl) T.z_len (by decide +kernel) (pa_cons (pv 11) pa_nil)))) pa_nil))) (fun _ => rfl))) (pss_one (ps_ret pe_bl)) pss_nil)
        (pss_one (ps_for PassesOwn.never rfl (qSeq K (pe_frz (pe_op (qAdd K) (pe_lc (own := [("_law_place", 14)]) rfl sc_law.nd (pi_range1 (by rfl) T.z_range (pa_cons pe_int pa_nil)) (blkOk_by (N := ["_law_script", "_law_bag_here", "_law_turn", "_law_wide", "_law_columns", "_law_couples_here", "_law_spacings", "_law_spacing", "_law_near", "_law_due", "_law_told", "_law_picture", "_law_column", "_law_at", "_law_place", "_law_one", "_law_other", "_law_lamp", "_law_seat", "_law_couple", "_law_x", "_law_y"]) (sc := defScope s_law) (by decide +kernel)) (fun _ _ _ _ _ => (pg_name (i := 14) sc_law.nd rfl (.inl rfl))) (fun _ _ _ _ _ => pts_nil) (fun _ _ _ _ _ => (pe_frz (pe_g G__law_dot hg (hr.mono (by decide)) T.m__law_dot T.F__law_dot.kp T.b__law_dot .nil pass0 (pa_cons (pv 1) (pa_cons pe_int pa_nil)))))) (pe_lc (own := [("_law_lamp", 17)]) rfl sc_law.nd (qSeq K (pe_slice (qSl K) (pv 11) po_none (po_some pe_int))) (blkOk_by (N := ["_law_script", "_law_bag_here", "_law_turn", "_law_wide", "_law_columns", "_law_couples_here", "_law_spacings", "_law_spacing", "_law_near", "_law_due", "_law_told", "_law_picture", "_law_column", "_law_at", "_law_place", "_law_one", "_law_other", "_law_lamp", "_law_seat", "_law_couple", "_law_x", "_law_y"]) (sc := defScope s_law) (by decide +kernel)) (fun _ _ _ _ _ => (pg_name (i := 17) sc_law.nd rfl (.inl rfl))) (fun _ _ _ _ _ => pts_nil) (fun _ _ _ _ _ => (pe_tup (pa_cons (pe_ix (qIxA K) (pv 17) pe_int (fun _ _ => rfl)) (pa_cons (pe_ix (qIxA K) (pv 17) pe_int (fun _ _ => rfl)) pa_nil)))))))) (pg_name (i := 12) sc_law.nd rfl (.inr rfl)) (pss_cons (ps_setLc (i := 13) (own := [("_law_place", 14), ("_law_seat", 18)]) rfl sc_law.nd rfl rfl (sw_true rfl rfl rfl (by decide +kernel)) (qEnum K T.z_enumerate (pa_cons (pv 9) pa_nil)) (blkOk_by (N := ["_law_script", "_law_bag_here", "_law_turn", "_law_wide", "_law_columns", "_law_couples_here", "_law_spacings", "_law_spacing", "_law_near", "_law_due", "_law_told", "_law_picture", "_law_column", "_law_at", "_law_place", "_law_one", "_law_other", "_law_lamp", "_law_seat", "_law_couple", "_law_x", "_law_y"]) (sc := defScope s_law) (by decide +kernel)) (fun _ _ _ _ _ => (qTup K 2 (pgs_cons (pg_name (i := 14) sc_law.nd rfl (.inl rfl)) (pgs_cons (pg_name (i := 18) sc_law.nd rfl (.inl rfl)) pgs_nil)))) (fun _ _ _ _ _ => (pts_one (pt_cmpR (qEqA K (hu64 hr)) (pv 18) (pv 12) (nomark _)))) (fun _ _ _ _ _ => (pv 14)))
        (pss_one (ps_if (pt_not (qTruth K (pe_g G__law_alike hg (hr.mono (by decide)) T.m__law_alike T.F__law_alike.kp T.b__law_alike .nil pass0 (pa_cons (pe_g G_lamp_at hg (hr.mono (by decide)) T.m_lamp_at T.F_lamp_at.kp T.b_lamp_at .nil pass0 (pa_cons (pv 11) (pa_cons (pv 7) (pa_cons (pv 12) pa_nil)))) (pa_cons (pe_ifExp (pt_cmpR (qNeA K (hu64 hr)) (pv 13) (pe_lst pa_nil) (nomark _)) (pe_ix (qIxA K) (pv 13) pe_int (fun _ _ => rfl)) pe_non) pa_nil))) (fun _ => rfl))) (pss_one (ps_ret pe_bl)) pss_nil)))))))))))))))))))))
        (pss_one (ps_ret pe_bl)))), ?_⟩
    show SD K _ _ [.lst (ns.map .int), .any, .any, .any, .any, .any, .any, .any, .any, .any, .any, .any, .any, .any, .any, .any, .any, .any, .any, .any, .any, .any]
    walk_at "g"
    refine ⟨hl, ?_⟩
    walk_at "g"
    refine ⟨by decide, by decide, ?_⟩
    refine forp_rg 0 _ (fun _ (_ : Unit) => True) (fun _ => [.lst (ns.map .int), .bag, .any, .any, .any, .any, .any, .any, .any, .any, .any, .any, .any, .any, .any, .any, .any, .any, .any, .any, .any, .any]) ⟨(), trivial, by walk_at "w"⟩ ?_ ?_
    · intro t0 _ _ _
      refine gs_name ?_
      dsimp only [List.set, sto]
      refine sd_mid (fun δ' => ∃ wd : Int, (0 < wd ∧ wd ≤ 60) ∧ Wk δ' [.lst (ns.map .int), .bag, .any, .dat (.int wd), .any, .any, .any, .any, .any, .any, .any, .any, .any, .any, .any, .any, .any, .any, .any, .any, .any, .any]) ?_ ?_
      · walk_at "g"
        refine some_l (fun d => ∃ n : Int, d = .int n ∧ 0 < n ∧ n ≤ 60) (fun d hd => ?_) ⟨by decide, by decide⟩ fun d hd => ?_
        · simp only [List.mem_cons, List.not_mem_nil, or_false] at hd
          rcases hd with rfl | rfl | rfl <;> exact ⟨_, rfl, by decide, by decide⟩
        obtain ⟨m, rfl, m0, m1⟩ := hd
        walk_at "g"
        exact ⟨m, ⟨m0, m1⟩, by walk_at "w"⟩
      rintro δ' ⟨wd, ⟨w0, w1⟩, w⟩
      refine sd_wk w ?_
      clear w
      refine sd_mid (fun δ' => ∃ cs : List Col, cs.length ≤ 9 ∧ (∀ c ∈ cs, Bk c) ∧ Wk δ' [.lst (ns.map .int), .bag, .any, .any, .own (cs.map cD), .any, .any, .any, .any, .any, .any, .any, .any, .any, .any, .any, .any, .any, .any, .any, .any, .any]) ?_ ?_
      · walk_at "g"
        refine some_l (fun d => ∃ n : Int, d = .int n ∧ 0 ≤ n ∧ n ≤ 9) (fun d hd => ?_) ⟨by decide, by decide⟩ fun d hd => ?_
        · simp only [List.mem_cons, List.not_mem_nil, or_false] at hd
          rcases hd with rfl | rfl | rfl | rfl | rfl <;> exact ⟨_, rfl, by decide, by decide⟩
        obtain ⟨m, rfl, m0, m1⟩ := hd
        walk_at "g"
        refine ⟨by omega, by omega, ?_⟩
        refine lc_all (fun _ e => ∃ c : Col, e = cD c ∧ Bk c) (by rw [rgD_len]; omega) (fun i d hd => ?_) fun out ho hp => ?_
        · walk_at "g"
          rename_i c c1 c2
          exact ⟨⟨by omega, by omega⟩, by omega, by omega⟩
        · obtain ⟨cs, rfl, hcs⟩ := mapsP cD out hp
          rw [rgD_len, List.length_map] at ho
          walk_at "g"
          exact ⟨cs, by omega, hcs, by walk_at "w"⟩
      rintro δ' ⟨cs0, c0, c1, w⟩
      refine sd_wk w ?_
      clear w
      refine sd_mid (fun δ' => ∃ cs : List Col, cs.length ≤ 18 ∧ (∀ c ∈ cs, Bk c) ∧ Wk δ' [.lst (ns.map .int), .bag, .any, .any, .own (cs.map cD), .any, .any, .any, .any, .any, .any, .any, .any, .any, .any, .any, .any, .any, .any, .any, .any, .any]) ?_ ?_
      · walk_at "g"
        refine some_l (fun d => ∃ n : Int, d = .int n) (fun d hd => ?_) ⟨by decide, by decide⟩ fun d hd => ?_
        · simp only [List.mem_cons, List.not_mem_nil, or_false] at hd
          rcases hd with rfl | rfl | rfl | rfl <;> exact ⟨_, rfl⟩
        obtain ⟨m, rfl⟩ := hd
        walk_at "g"
        obtain ⟨ys, e1, y1, y2⟩ := cut_map cD cs0 none (some m)
        rw [e1]
        refine AddP.lst rfl rfl (by rw [List.length_map, List.length_map]; unfold sizeLine; omega) ?_
        rw [← List.map_append]
        walk_at "g"
        refine ⟨cs0 ++ ys, by rw [List.length_append]; omega, fun c hc => ?_, by walk_at "w"⟩
        rcases List.mem_append.mp hc with h | h
        · exact c1 c h
        · exact c1 c (y2 c h)
      rintro δ' ⟨cs, c2, c3, w⟩
      refine sd_wk w ?_
      clear w c0 c1 cs0
      have kb : ∀ c ∈ cs, Bc c := fun c h => (c3 c h).bc
      have clen := couples_le cs cs.length
      have cn : cs.length * cs.length ≤ 18 * 18 := Nat.mul_le_mul c2 c2
      obtain ⟨C, hC⟩ : ∃ C, C = couplesOf cs cs.length := ⟨_, rfl⟩
      have cm : ∀ y, y ∈ C ↔ ∃ i j : Nat, i < j ∧ j < cs.length ∧ y = tripL cs i j := fun y => by rw [hC]; exact couples_mem cs cs.length y
      rw [← hC] at clen
      refine sd_mid (fun δ' => Wk δ' [.lst (ns.map .int), .bag, .any, .any, .own (cs.map cD), .own (C.map tupD), .any, .any, .any, .any, .any, .any, .any, .any, .any, .any, .any, .any, .any, .any, .any, .any]) ?_ ?_
      · walk_at "g"
        refine ⟨_, cs, rfl, .inl rfl, by omega, kb, ?_⟩
        rw [← hC]
        walk_at "g"
        walk_at "w"
      intro δ' w
      refine sd_wk w ?_
      clear w hC
      refine sd_mid (fun δ' => ∃ ss : List Int, ss.length ≤ 8 ∧ (∀ s ∈ ss, 1 ≤ s ∧ s ≤ 300) ∧ Wk δ' [.lst (ns.map .int), .bag, .any, .any, .own (cs.map cD), .own (C.map tupD), .own (ss.map .int), .any, .any, .any, .any, .any, .any, .any, .any, .any, .any, .any, .any, .any, .any, .any]) ?_ ?_
      · walk_at "g"
        refine some_l (fun d => ∃ n : Int, d = .int n) (fun d hd => ?_) ⟨by decide, by decide⟩ fun d hd => ?_
        · simp only [List.mem_cons, List.not_mem_nil, or_false] at hd
          rcases hd with rfl | rfl <;> exact ⟨_, rfl⟩
        obtain ⟨m, rfl⟩ := hd
        walk_at "g"
        obtain ⟨ys, e1, y1, y2⟩ := cut_map PyData.int [1, 2, 3, 5, 7, 10, 25, 80] none (some m)
        have e1' : cutD [.int 1, .int 2, .int 3, .int 5, .int 7, .int 10, .int 25, .int 80] none (some m) = ys.map .int := e1
        rw [e1']
        refine ⟨ys, y1, fun s hs => ?_, by walk_at "w"⟩
        have := y2 s hs
        simp only [List.mem_cons, List.not_mem_nil, or_false] at this
        omega
      rintro δ' ⟨s0, s1, s2, w⟩
      refine sd_wk w ?_
      clear w
      refine sd_mid (fun δ' => ∃ ss : List Int, ss.length ≤ 30 ∧ (∀ s ∈ ss, 1 ≤ s ∧ s ≤ 300) ∧ Wk δ' [.lst (ns.map .int), .bag, .any, .any, .own (cs.map cD), .own (C.map tupD), .own (ss.map .int), .any, .any, .any, .any, .any, .any, .any, .any, .any, .any, .any, .any, .any, .any, .any]) ?_ ?_
      · obtain ⟨ys, e1, y1, y2⟩ := cut_map cD cs (some 1) none
        walk_at "g"
        rw [e1]
        refine ZipQ.l rfl rfl rfl rfl ?_
        have zl : (zipD (cs.map cD) (ys.map cD)).length ≤ 18 := by
          rw [zipD_len, List.length_map, List.length_map]
          omega
        refine lc_all (fun _ e => ∃ n : Int, e = .int n ∧ 1 ≤ n ∧ n ≤ 300) (by omega) (fun i d hd => ?_) fun out ho hp => ?_
        · have hi := (List.getElem?_eq_some_iff.mp hd).1
          rw [zipD_len, List.length_map, List.length_map] at hi
          have g1 : (cs.map cD)[i]? = some (cD cs[i]) := by rw [List.getElem?_map, List.getElem?_eq_getElem (by omega)]; rfl
          have g2 : (ys.map cD)[i]? = some (cD ys[i]) := by rw [List.getElem?_map, List.getElem?_eq_getElem (by omega)]; rfl
          rw [zipD_get g1 g2] at hd
          cases hd
          obtain ⟨b1, _⟩ := c3 cs[i] (List.getElem_mem _)
          obtain ⟨b2, _⟩ := c3 ys[i] (y2 _ (List.getElem_mem _))
          generalize cs[i] = a at *
          generalize ys[i] = b at *
          unfold cD
          walk_at "g"
          split <;> exact ⟨by omega, by omega⟩
        · obtain ⟨qs, rfl, hq⟩ := mapsP PyData.int out hp
          rw [List.length_map] at ho
          walk_at "g"
          refine AddP.lst rfl rfl (by rw [List.length_map, List.length_map]; unfold sizeLine; omega) ?_
          rw [← List.map_append]
          walk_at "g"
          refine ⟨s0 ++ qs, by rw [List.length_append]; omega, fun s hs => ?_, by walk_at "w"⟩
          rcases List.mem_append.mp hs with h | h
          · exact s2 s h
          · exact hq s h
      rintro δ' ⟨ss, s3, s4, w⟩
      refine sd_wk w ?_
      clear w s1 s2 s0
      refine sd_frz (i := 6) rfl ?_
      dsimp only [List.set]
      refine sd_mid (fun δ' => Wk δ' [.lst (ns.map .int), .bag, .any, .any, .own (cs.map cD), .own (C.map tupD), .any, .any, .any, .any, .any, .any, .any, .any, .any, .any, .any, .any, .any, .any, .any, .any]) ?_ ?_
      · walk_at "g"
        refine forp_ds _ (fun _ (_ : Unit) => True) (fun _ => [.lst (ns.map .int), .bag, .any, .any, .own (cs.map cD), .own (C.map tupD), .any, .any, .any, .any, .any, .any, .any, .any, .any, .any, .any, .any, .any, .any, .any, .any]) ⟨(), trivial, by walk_at "w"⟩ ?_ ?_
        · intro t1 d _ hd _
          rw [List.getElem?_map] at hd
          obtain ⟨s, hs, rfl⟩ := Option.map_eq_some_iff.mp hd
          obtain ⟨s5, s6⟩ := s4 s (List.mem_of_getElem? hs)
          refine gs_name ?_
          dsimp only [List.set, sto]
          refine sd_mid (fun δ' => ∃ ms : List (List Int), (∀ m, m ∈ ms ↔ ∃ i j : Nat, i < j ∧ j < cs.length ∧ closeC cs s i j ∧ m = [(i : Int), (j : Int)]) ∧ ms.Pairwise (fun x y => HT.lexLt y x = false) ∧ Wk δ' [.lst (ns.map .int), .bag, .any, .any, .own (cs.map cD), .own (C.map tupD), .any, .dat (.int s), .own (ms.map tupD), .any, .any, .any, .any, .any, .any, .any, .any, .any, .any, .any, .any, .any]) ?_ ?_
          · walk_at "g"
            refine lc_filtc C (fun y => decide (y.getD 0 0 < s * s)) tupD (fun y => tupD (y.drop 1)) (by omega) (fun y hy => ?_) ?_
            · obtain ⟨i, j, h1, h2, rfl⟩ := (cm y).mp hy
              unfold tupD tripL
              dsimp only [List.map]
              walk_at "g"
              refine ⟨rfl, fun _ => ?_⟩
              walk_at "g"
              rfl
            · walk_at "g"
              have e : (C.filter fun y => decide (y.getD 0 0 < s * s)).map (fun y => tupD (y.drop 1)) = ((C.filter fun y => decide (y.getD 0 0 < s * s)).map (·.drop 1)).map tupD := by rw [List.map_map]; rfl
              rw [e]
              have hm : ∀ m, m ∈ (C.filter fun y => decide (y.getD 0 0 < s * s)).map (·.drop 1) ↔ ∃ i j : Nat, i < j ∧ j < cs.length ∧ closeC cs s i j ∧ m = [(i : Int), (j : Int)] := by
                intro m
                constructor
                · intro h
                  obtain ⟨y, hy, rfl⟩ := List.mem_map.mp h
                  obtain ⟨h1, h2⟩ := List.mem_filter.mp hy
                  obtain ⟨i, j, h3, h4, rfl⟩ := (cm y).mp h1
                  have h6 : (tripL cs i j).getD 0 0 < s * s := of_decide_eq_true h2
                  exact ⟨i, j, h3, h4, h6, rfl⟩
                · rintro ⟨i, j, h3, h4, h5, rfl⟩
                  exact List.mem_map.mpr ⟨tripL cs i j, List.mem_filter.mpr ⟨(cm _).mpr ⟨i, j, h3, h4, rfl⟩, decide_eq_true h5⟩, rfl⟩
              refine SortA.q rfl (fun c hc => ?_) fun ms pm pw => ?_
              · obtain ⟨i, j, _, _, _, rfl⟩ := (hm c).mp hc
                rfl
              · walk_at "g"
                exact ⟨ms, fun m => (pm.mem_iff).trans (hm m), pw, by walk_at "w"⟩
          rintro δ' ⟨ms, m1, m2, w⟩
          refine sd_wk w ?_
          clear w
          refine sd_mid (fun δ' => ∃ r, NearIs cs.length (closeC cs s) r ∧ Wk δ' [.lst (ns.map .int), .bag, .any, .any, .own (cs.map cD), .own (C.map tupD), .any, .dat (.int s), .any, .dat (nearD r), .any, .any, .any, .any, .any, .any, .any, .any, .any, .any, .any, .any]) ?_ ?_
          · have sh : SeqAt.shaped (.list (ms.map tupD)) = true := sh_lst 1 (by decide) fun d hd => by
              obtain ⟨c, _, rfl⟩ := List.mem_map.mp hd
              exact laid_tupD c
            cases ms with
            | nil =>
              walk_at "g"
              refine neq_nil rfl sh ?_
              walk_at "g"
              refine Br.f ?_
              walk_at "g"
              refine ⟨none, fun i j h1 h2 h3 => ?_, by walk_at "w"⟩
              have := (m1 [(i : Int), (j : Int)]).mpr ⟨i, j, h1, h2, h3, rfl⟩
              cases this
            | cons m r =>
              obtain ⟨i, j, h1, h2, h3, rfl⟩ := (m1 m).mp (by simp)
              walk_at "g"
              refine neq_nil rfl sh ?_
              walk_at "g"
              refine Br.t ?_
              walk_at "g"
              refine ixq_lst rfl (atI_nat (j := 0) rfl) ?_
              walk_at "g"
              refine ⟨some (i, j), ⟨h1, h2, h3, fun a b g1 g2 g3 => ?_⟩, by walk_at "w"⟩
              have hm := (m1 [(a : Int), (b : Int)]).mpr ⟨a, b, g1, g2, g3, rfl⟩
              have hz : HT.lexLt [(a : Int), (b : Int)] [(i : Int), (j : Int)] = false := by
                rcases List.mem_cons.mp hm with e | e
                · rw [e]
                  exact lex_irr _
                · exact (List.pairwise_cons.mp m2).1 _ e
              rw [HT.lexLt_cons, HT.lexLt_cons, HT.lexLt_nil_nil] at hz
              by_cases e1 : (a : Int) = i
              · rw [if_pos e1] at hz
                by_cases e2 : (b : Int) = j
                · omega
                · rw [if_neg e2] at hz
                  have := of_decide_eq_false hz
                  omega
              · rw [if_neg e1] at hz
                have := of_decide_eq_false hz
                omega
          rintro δ' ⟨r, hr, w⟩
          refine sd_wk w ?_
          clear w m1 m2 ms
          refine sd_mid (fun δ' => Wk δ' [.lst (ns.map .int), .bag, .any, .any, .own (cs.map cD), .own (C.map tupD), .any, .dat (.int s), .any, .dat (nearD r), .own [nearD r, nearD r, .bool r.isNone], .any, .any, .any, .any, .any, .any, .any, .any, .any, .any, .any]) ?_ ?_
          · walk_at "g"
            refine ⟨_, cs, s, rfl, .inl rfl, by omega, kb, by omega, fun r1 hr1 => ?_⟩
            cases near_one hr1 hr
            walk_at "g"
            refine ⟨_, cs, s, rfl, .inr rfl, by omega, kb, by omega, fun r1 hr1 => ?_⟩
            cases near_one hr1 hr
            walk_at "g"
            refine ⟨_, cs, s, rfl, .inl rfl, by omega, kb, by omega, fun r1 hr1 => ?_⟩
            cases near_one hr1 hr
            walk_at "g"
            walk_at "w"
          intro δ' w
          refine sd_wk w ?_
          clear w
          have en : isNo (nearD r) = r.isNone := by cases r <;> rfl
          walk_at "g"
          rw [show id (isNo (nearD r)) = r.isNone from en]
          walk_at "g"
          refine ⟨_, _, _, rfl, .bor, .bor, ?_, ?_⟩
          · refine (small_lst (L := 23) (D := 1) 3 (by simp) fun x hx => ?_).tells (by decide) (by decide)
            simp only [List.mem_cons, List.not_mem_nil, or_false] at hx
            rcases hx with rfl | rfl | rfl
            · exact small_near (by omega) hr
            · exact small_near (by omega) hr
            · exact small_bool.mono (by decide) (by decide)
          walk_at "g"
          refine Br.f ?_
          walk_at "g"
          exact ⟨(), trivial, by walk_at "w"⟩
        · intro _ _
          walk_at "w"
      intro δ' w
      refine sd_wk w ?_
      clear w
      refine sd_mid (fun δ' => Wk δ' [.lst (ns.map .int), .bag, .any, .any, .any, .any, .any, .any, .any, .any, .any, .any, .any, .any, .any, .any, .any, .any, .any, .any, .any, .any]) ?_ ?_
      · have fin : ∀ r, BestIs cs.length (tripL cs) r → Tells (optD r) := fun r hr => (small_best (by omega) c3 hr).tells (by decide) (by decide)
        have sh : SeqAt.shaped (.list (C.map tupD)) = true := sh_lst 1 (by decide) fun d hd => by
          obtain ⟨c, _, rfl⟩ := List.mem_map.mp hd
          exact laid_tupD c
        walk_at "g"
        refine ⟨_, cs, rfl, .inl rfl, by omega, kb, fun r hr => ?_⟩
        walk_at "g"
        refine neq_nil rfl sh ?_
        walk_at "g"
        cases C with
        | nil =>
          refine Br.f ?_
          have e := best_one hr (t := none) fun i j h1 h2 => by
            have := (cm (tripL cs i j)).mpr ⟨i, j, h1, h2, rfl⟩
            cases this
          subst e
          walk_at "g"
          refine ⟨_, _, _, rfl, .dat, .dat, fin none hr, ?_⟩
          walk_at "g"
          refine Br.f ?_
          walk_at "g"
          walk_at "w"
        | cons c0 C' =>
          refine Br.t ?_
          walk_at "g"
          refine MinA.t rfl (Nat.succ_pos _) fun c hc hmin => ?_
          obtain ⟨i, j, h1, h2, h3⟩ := (cm c).mp hc
          have e := best_one hr (t := some c) ⟨⟨i, j, h1, h2, h3⟩, fun a b g1 g2 => hmin _ ((cm _).mpr ⟨a, b, g1, g2, rfl⟩)⟩
          subst e
          walk_at "g"
          refine ⟨_, _, _, rfl, .dat, .dat, fin (some c) hr, ?_⟩
          walk_at "g"
          refine Br.f ?_
          walk_at "g"
          walk_at "w"
      intro δ' w
      refine sd_wk w ?_
      clear w kb clen cn cm c2 c3 cs C s3 s4 ss w0 w1 wd
      refine sd_mid (fun δ' => ∃ (ps : List Lamp) (s : Int), ps.length ≤ 14 ∧ (ps.map (·.x)).Pairwise (· ≤ ·) ∧ (∀ l ∈ ps, Bp l) ∧ (1 ≤ s ∧ s ≤ 30) ∧ Wk δ' [.lst (ns.map .int), .bag, .any, .any, .any, .any, .any, .dat (.int s), .any, .any, .any, .dat (.tuple (ps.map lampD)), .any, .any, .any, .any, .any, .any, .any, .any, .any, .any]) ?_ ?_
      · walk_at "g"
        refine ⟨rfl, fun ps p1 p2 p3 => ?_⟩
        walk_at "g"
        refine some_l (fun d => ∃ n : Int, d = .int n ∧ 1 ≤ n ∧ n ≤ 30) (fun d hd => ?_) ⟨by decide, by decide⟩ fun d hd => ?_
        · simp only [List.mem_cons, List.not_mem_nil, or_false] at hd
          rcases hd with rfl | rfl | rfl | rfl | rfl <;> exact ⟨_, rfl, by decide, by decide⟩
        obtain ⟨m, rfl, m0, m1⟩ := hd
        walk_at "g"
        exact ⟨ps, m, p1, p2, p3, ⟨m0, m1⟩, by walk_at "w"⟩
      rintro δ' ⟨ps, s, p1, p2, p3, ⟨s1, s2⟩, w⟩
      refine sd_wk w ?_
      clear w
      have sk := seat_bk ⟨by omega, s2⟩ p1 p2 p3
      have sl := seatsC_len s ps
      have sD : seatsD s ps = .tuple ((seatsC s ps).map cD) := by
        unfold seatsD
        rw [seatsC_d]
      refine sd_mid (fun δ' => Wk δ' [.lst (ns.map .int), .bag, .any, .any, .any, .any, .any, .dat (.int s), .any, .dat (.tuple ((seatsC s ps).map cD)), .any, .dat (.tuple (ps.map lampD)), .any, .any, .any, .any, .any, .any, .any, .any, .any, .any]) ?_ ?_
      · walk_at "g"
        refine ⟨ps, s, rfl, by omega, by omega, p2, ?_⟩
        rw [sD]
        walk_at "g"
        walk_at "w"
      intro δ' w
      refine sd_wk w ?_
      clear w
      have hmax : ∃ m : Int, (m ∈ 0 :: (seatsC s ps).map (·.2) ∧ ∀ y ∈ 0 :: (seatsC s ps).map (·.2), y ≤ m) ∧ 0 ≤ m ∧ m ≤ 420 := by
        have : ∀ l : List Int, (∀ y ∈ l, 0 ≤ y ∧ y ≤ 420) → ∃ m : Int, (m ∈ 0 :: l ∧ ∀ y ∈ 0 :: l, y ≤ m) ∧ 0 ≤ m ∧ m ≤ 420 := by
          intro l
          induction l with
          | nil => exact fun _ => ⟨0, ⟨by simp, by simp⟩, by decide, by decide⟩
          | cons a l ih =>
            intro h
            obtain ⟨m, ⟨h1, h2⟩, h3, h4⟩ := ih fun y hy => h y (List.mem_cons_of_mem _ hy)
            have ha := h a (by simp)
            by_cases e : m ≤ a
            · refine ⟨a, ⟨by simp, fun y hy => ?_⟩, ha.1, ha.2⟩
              simp only [List.mem_cons] at hy h2
              rcases hy with rfl | rfl | hy
              · omega
              · omega
              · have := h2 y (.inr hy)
                omega
            · refine ⟨m, ⟨?_, fun y hy => ?_⟩, h3, h4⟩
              · simp only [List.mem_cons] at h1 ⊢
                rcases h1 with h1 | h1
                · exact .inl h1
                · exact .inr (.inr h1)
              · simp only [List.mem_cons] at hy h2
                rcases hy with rfl | rfl | hy
                · omega
                · omega
                · exact h2 y (.inr hy)
        refine this _ fun y hy => ?_
        obtain ⟨c, hc, rfl⟩ := List.mem_map.mp hy
        exact (sk c hc).2
      obtain ⟨mx, ⟨x1, x2⟩, x3, x4⟩ := hmax
      have mxe : ∀ m, m ∈ 0 :: (seatsC s ps).map (·.2) → (∀ y ∈ 0 :: (seatsC s ps).map (·.2), y ≤ m) → m = mx := fun m h1 h2 => Int.le_antisymm (x2 m h1) (h2 mx x1)
      refine sd_mid (fun δ' => Wk δ' [.lst (ns.map .int), .bag, .any, .any, .any, .any, .any, .dat (.int s), .any, .dat (.tuple ((seatsC s ps).map cD)), .own [.tuple ((seatsC s ps).map cD), .int mx], .dat (.tuple (ps.map lampD)), .any, .any, .any, .any, .any, .any, .any, .any, .any, .any]) ?_ ?_
      · walk_at "g"
        refine ⟨ps, s, rfl, by omega, by omega, p2, ?_⟩
        rw [sD]
        walk_at "g"
        refine ⟨ps, s, rfl, by omega, by omega, p2, fun m h1 h2 => ?_⟩
        rw [mxe m h1 h2]
        walk_at "g"
        walk_at "w"
      intro δ' w
      refine sd_wk w ?_
      clear w
      refine sd_mid (fun δ' => Wk δ' [.lst (ns.map .int), .bag, .any, .any, .any, .any, .any, .dat (.int s), .any, .dat (.tuple ((seatsC s ps).map cD)), .any, .dat (.tuple (ps.map lampD)), .any, .any, .any, .any, .any, .any, .any, .any, .any, .any]) ?_ ?_
      · walk_at "g"
        refine lc_mapc (seatsC s ps) cD (fun c => .int c.2) (by omega) (fun c _ => ?_) ?_
        · obtain ⟨c1, c2⟩ := c
          unfold cD
          walk_at "g"
          rfl
        · have e : (seatsC s ps).map (fun c => PyData.int c.2) = ((seatsC s ps).map (·.2)).map PyData.int := by rw [List.map_map]; rfl
          rw [e]
          refine AddP.lst rfl rfl (by simp only [List.length_cons, List.length_nil, List.length_map]; unfold sizeLine; omega) ?_
          walk_at "g"
          refine MaxP.mk (ns := 0 :: (seatsC s ps).map (·.2)) rfl (by simp) fun m h1 h2 => ?_
          rw [mxe m h1 h2]
          walk_at "g"
          refine ⟨_, _, _, rfl, .bor, .bor, ?_, ?_⟩
          · refine (small_lst (L := 400) (D := 2) 2 (by simp) fun x hx => ?_).tells (by decide) (by decide)
            simp only [List.mem_cons, List.not_mem_nil, or_false] at hx
            rcases hx with rfl | rfl
            · refine (small_tup (L := 23) (D := 1) 14 (by rw [List.length_map]; omega) fun x hx => ?_).mono (by decide) (by decide)
              obtain ⟨c, hc, rfl⟩ := List.mem_map.mp hx
              exact small_c (sk c hc)
            · exact (small_i (by omega)).mono (by decide) (by decide)
          walk_at "g"
          refine Br.f ?_
          walk_at "g"
          walk_at "w"
      intro δ' w
      refine sd_wk w ?_
      clear w mxe x1 x2 x3 x4 mx
      refine sd_mid (fun δ' => Wk δ' [.lst (ns.map .int), .bag, .any, .any, .any, .any, .any, .dat (.int s), .any, .dat (.tuple ((seatsC s ps).map cD)), .any, .dat (.tuple (ps.map lampD)), .any, .any, .any, .any, .any, .any, .any, .any, .any, .any]) ?_ ?_
      · walk_at "g"
        refine ⟨ps, s, rfl, by omega, by omega, p2, ?_⟩
        rw [sD]
        walk_at "g"
        refine ⟨_, seatsC s ps, s, rfl, .inr rfl, by omega, fun c hc => ?_, by omega, fun r hr => ?_⟩
        · obtain ⟨⟨h1, h2⟩, h3, h4⟩ := sk c hc
          exact ⟨⟨by omega, by omega⟩, by omega, by omega⟩
        rw [near_seats (by omega) p2 hr]
        walk_at "g"
        refine Br.f ?_
        walk_at "g"
        walk_at "w"
      intro δ' w
      refine sd_wk w ?_
      clear w
      refine sd_mid (fun δ' => Wk δ' [.lst (ns.map .int), .bag, .any, .any, .any, .any, .any, .dat (.int s), .any, .dat (.tuple ((seatsC s ps).map cD)), .any, .dat (.tuple (ps.map lampD)), .any, .any, .any, .any, .any, .any, .any, .any, .any, .any]) ?_ ?_
      · walk_at "g"
        refine lc_fn ((List.range ps.length).map fun i : Nat => .int (i : Nat)) (by simp only [List.length_map, List.length_range, sl]) (by rw [List.length_map]; omega) (fun i d hd => ?_) ?_
        · rw [List.getElem?_map] at hd
          obtain ⟨c, hc, rfl⟩ := Option.map_eq_some_iff.mp hd
          have hi : i < ps.length := by rw [← sl]; exact (List.getElem?_eq_some_iff.mp hc).1
          walk_at "g"
          refine ⟨ps, s, c, rfl, by omega, by omega, p2, fun r hr => ?_⟩
          rw [seat_own s1 p2 hi hc hr]
          walk_at "g"
          rw [List.getElem?_map, List.getElem?_range hi]
          rfl
        · walk_at "g"
          rw [List.length_map]
          refine ⟨by omega, by omega, ?_⟩
          rw [Int.toNat_natCast]
          walk_at "g"
          refine ⟨_, _, _, rfl, .bor, .bor, ?_, ?_⟩
          · refine (small_lst (L := 8) (D := 0) 14 (by rw [List.length_map, List.length_range]; omega) fun x hx => ?_).tells (by decide) (by decide)
            obtain ⟨i, hi, rfl⟩ := List.mem_map.mp hx
            have := List.mem_range.mp hi
            exact small_i (by omega)
          walk_at "g"
          refine Br.f ?_
          walk_at "g"
          walk_at "w"
      intro δ' w
      refine sd_wk w ?_
      clear w
      have en : ∀ i, i < ps.length → ((seatsC s ps).map cD).getD i .none = cD (colAt (seatsC s ps) i) := fun i hi => by
        rw [List.getD_eq_getElem?_getD, col_d (by omega)]
        rfl
      walk_at "g"
      refine ⟨by decide, by decide, ?_⟩
      refine lc_all (fun _ e => ∃ c : Col, e = cD c) (by rw [rgD_len]; decide) (fun i d hd => ?_) fun out ho hp => ?_
      · walk_at "g"
        exact ⟨_, rfl⟩
      obtain ⟨as, rfl, _⟩ := mapsP (P := fun _ => True) cD out fun i e h => by
        obtain ⟨c, hc⟩ := hp i e h
        exact ⟨c, hc, trivial⟩
      rw [rgD_len, List.length_map] at ho
      walk_at "g"
      obtain ⟨qs, e1, q1, q2⟩ := cut_map lampD ps none (some 3)
      rw [e1]
      refine lc_mapc qs lampD (fun l => cD (l.x, l.z)) (by omega) (fun l _ => ?_) ?_
      · obtain ⟨lx, lz, lsh, lw⟩ := l
        unfold lampD
        dsimp only
        walk_at "g"
        rfl
      have e2 : qs.map (fun l => cD (l.x, l.z)) = (qs.map fun l => (l.x, l.z)).map cD := by rw [List.map_map]; rfl
      rw [e2]
      have al : as.length ≤ 4 := by
        have : (4 : Int).toNat = 4 := by decide
        omega
      refine AddP.lst rfl rfl (by simp only [List.length_map]; unfold sizeLine; omega) ?_
      rw [← List.map_append]
      generalize as ++ qs.map (fun l => (l.x, l.z)) = bs
      walk_at "g"
      refine forp_ds _ (fun _ (_ : Unit) => True) (fun _ => [.lst (ns.map .int), .bag, .any, .any, .any, .any, .any, .dat (.int s), .any, .dat (.tuple ((seatsC s ps).map cD)), .any, .dat (.tuple (ps.map lampD)), .any, .any, .any, .any, .any, .any, .any, .any, .any, .any]) ⟨(), trivial, by walk_at "w"⟩ ?_ ?_
      · intro t1 d _ hd _
        rw [List.getElem?_map] at hd
        obtain ⟨c, hc, rfl⟩ := Option.map_eq_some_iff.mp hd
        refine gs_name ?_
        dsimp only [List.set, sto]
        obtain ⟨F, hF⟩ : ∃ F, F = (List.range ps.length).filter fun i => decide (colAt (seatsC s ps) i = c) := ⟨_, rfl⟩
        refine sd_mid (fun δ' => Wk δ' [.lst (ns.map .int), .bag, .any, .any, .any, .any, .any, .dat (.int s), .any, .dat (.tuple ((seatsC s ps).map cD)), .any, .dat (.tuple (ps.map lampD)), .dat (cD c), .own (F.map natD), .any, .any, .any, .any, .any, .any, .any, .any]) ?_ ?_
        · walk_at "g"
          refine ⟨_, _, rfl, rfl, ?_⟩
          unfold enumD
          rw [List.length_map, sl]
          refine lc_filtc (List.range ps.length) (fun i => decide (colAt (seatsC s ps) i = c)) _ natD (by rw [List.length_range]; omega) (fun i hi => ?_) ?_
          · have hi := List.mem_range.mp hi
            rw [en i hi]
            walk_at "g"
            refine eqq_g rfl rfl (sh_col _) (sh_col _) ?_
            rw [eqv_col]
            walk_at "g"
            refine ⟨rfl, fun _ => ?_⟩
            walk_at "g"
            rfl
          · rw [← hF]
            walk_at "g"
            walk_at "w"
        intro δ' w
        refine sd_wk w ?_
        clear w
        have atF : AtIs (seatsC s ps) c F.head? := by
          have key : ∀ i, i < ps.length → (seatsC s ps)[i]? = some (colAt (seatsC s ps) i) := fun i hi => col_get (by omega)
          have pw : F.Pairwise (· < ·) := by rw [hF]; exact List.Pairwise.filter _ List.pairwise_lt_range
          have mem : ∀ i, i ∈ F ↔ i < ps.length ∧ colAt (seatsC s ps) i = c := fun i => by
            rw [hF, List.mem_filter, List.mem_range, decide_eq_true_eq]
          cases F with
          | nil =>
            intro d hd e
            obtain ⟨i, hi⟩ := List.getElem?_of_mem hd
            have hl2 : i < ps.length := by rw [← sl]; exact (List.getElem?_eq_some_iff.mp hi).1
            rw [key i hl2] at hi
            have := (mem i).mpr ⟨hl2, (Option.some.inj hi).trans e⟩
            cases this
          | cons i r =>
            obtain ⟨h1, h2⟩ := (mem i).mp (by simp)
            refine ⟨by rw [key i h1, h2], fun m hm e => ?_⟩
            have hl2 : m < ps.length := by omega
            rw [key m hl2] at e
            have hmem := (mem m).mpr ⟨hl2, Option.some.inj e⟩
            rcases List.mem_cons.mp hmem with z | z
            · omega
            · have := (List.pairwise_cons.mp pw).1 m z
              omega
        have sF : SeqAt.shaped (.list (F.map natD)) = true := sh_ints (fun i : Nat => (i : Int)) F
        have tell : ∀ r, (∀ i, r = some i → i < 20) → Tells (atD r) := fun r h => by
          cases r with
          | none => exact small_none.tells (by decide) (by decide)
          | some i => exact (small_i (by have := h i rfl; omega)).tells (by decide) (by decide)
        have lt20 : ∀ i, F.head? = some i → i < 20 := fun i e => by
          have h1 : i ∈ F := List.mem_of_mem_head? e
          rw [hF] at h1
          have := List.mem_range.mp (List.mem_filter.mp h1).1
          omega
        walk_at "g"
        refine ⟨ps, s, c, rfl, by omega, by omega, p2, fun r hr => ?_⟩
        rw [at_one hr atF]
        walk_at "g"
        refine neq_nil rfl sF ?_
        walk_at "g"
        clear hF atF
        cases F with
        | nil =>
          refine Br.f ?_
          walk_at "g"
          refine ⟨_, _, _, rfl, .dat, .dat, tell none (fun _ e => nomatch e), ?_⟩
          walk_at "g"
          refine Br.f ?_
          walk_at "g"
          exact ⟨(), trivial, by walk_at "w"⟩
        | cons i r2 =>
          refine Br.t ?_
          walk_at "g"
          refine ixq_lst rfl (atI_nat (j := 0) rfl) ?_
          walk_at "g"
          refine ⟨_, _, _, rfl, .dat, .dat, tell (some i) lt20, ?_⟩
          walk_at "g"
          refine Br.f ?_
          walk_at "g"
          exact ⟨(), trivial, by walk_at "w"⟩
      · intro _ _
        exact ⟨(), trivial, by walk_at "w"⟩
    · intro _ _
      walk_at "g"
      exact ⟨rfl, hk⟩
end
section
theorem all_mk {l : PySem.W.OpenLaw} {w : World} {K : PySem.W.Frag} {h : Heap} {mg : Str → Option Value} {fa : Addr} (X : K.In h) (G : h.Ns mainGlobals mg) (hfa : mg "law" = some (.ref fa))
    {od_squared an_squared : Option Addr} {sl_squared : Array (Option Value)} {oc_squared kV_squared dc_squared pm_squared cd_squared ct_squared : Value} {f_squared : Addr}
    {od_rows_of an_rows_of : Option Addr} {sl_rows_of : Array (Option Value)} {oc_rows_of kV_rows_of dc_rows_of pm_rows_of cd_rows_of ct_rows_of : Value} {f_rows_of : Addr}
    {od_seats_of an_seats_of : Option Addr} {sl_seats_of : Array (Option Value)} {oc_seats_of kV_seats_of dc_seats_of pm_seats_of cd_seats_of ct_seats_of : Value} {f_seats_of : Addr}
    {od_first_near an_first_near : Option Addr} {sl_first_near : Array (Option Value)} {oc_first_near kV_first_near dc_first_near pm_first_near cd_first_near ct_first_near : Value} {f_first_near : Addr}
    {od_are_spaced an_are_spaced : Option Addr} {sl_are_spaced : Array (Option Value)} {oc_are_spaced kV_are_spaced dc_are_spaced pm_are_spaced cd_are_spaced ct_are_spaced : Value} {f_are_spaced : Addr}
    {od_closest an_closest : Option Addr} {sl_closest : Array (Option Value)} {oc_closest kV_closest dc_closest pm_closest cd_closest ct_closest : Value} {f_closest : Addr}
    {od_lamp_at an_lamp_at : Option Addr} {sl_lamp_at : Array (Option Value)} {oc_lamp_at kV_lamp_at dc_lamp_at pm_lamp_at cd_lamp_at ct_lamp_at : Value} {f_lamp_at : Addr}
    {od_depth_of an_depth_of : Option Addr} {sl_depth_of : Array (Option Value)} {oc_depth_of kV_depth_of dc_depth_of pm_depth_of cd_depth_of ct_depth_of : Value} {f_depth_of : Addr}
    {od__law_bag an__law_bag : Option Addr} {sl__law_bag : Array (Option Value)} {oc__law_bag kV__law_bag dc__law_bag pm__law_bag cd__law_bag ct__law_bag : Value} {f__law_bag : Addr}
    {od__law_take an__law_take : Option Addr} {sl__law_take : Array (Option Value)} {oc__law_take kV__law_take dc__law_take pm__law_take cd__law_take ct__law_take : Value} {f__law_take : Addr}
    {od__law_some an__law_some : Option Addr} {sl__law_some : Array (Option Value)} {oc__law_some kV__law_some dc__law_some pm__law_some cd__law_some ct__law_some : Value} {f__law_some : Addr}
    {od__law_alike an__law_alike : Option Addr} {sl__law_alike : Array (Option Value)} {oc__law_alike kV__law_alike dc__law_alike pm__law_alike cd__law_alike ct__law_alike : Value} {f__law_alike : Addr}
    {od__law_dot an__law_dot : Option Addr} {sl__law_dot : Array (Option Value)} {oc__law_dot kV__law_dot dc__law_dot pm__law_dot cd__law_dot ct__law_dot : Value} {f__law_dot : Addr}
    {od__law_shades an__law_shades : Option Addr} {sl__law_shades : Array (Option Value)} {oc__law_shades kV__law_shades dc__law_shades pm__law_shades cd__law_shades ct__law_shades : Value} {f__law_shades : Addr}
    {od__law_shape an__law_shape : Option Addr} {sl__law_shape : Array (Option Value)} {oc__law_shape kV__law_shape dc__law_shape pm__law_shape cd__law_shape ct__law_shape : Value} {f__law_shape : Addr}
    {od__law_rows an__law_rows : Option Addr} {sl__law_rows : Array (Option Value)} {oc__law_rows kV__law_rows dc__law_rows pm__law_rows cd__law_rows ct__law_rows : Value} {f__law_rows : Addr}
    {od__law_seats an__law_seats : Option Addr} {sl__law_seats : Array (Option Value)} {oc__law_seats kV__law_seats dc__law_seats pm__law_seats cd__law_seats ct__law_seats : Value} {f__law_seats : Addr}
    {od__law_close_picture an__law_close_picture : Option Addr} {sl__law_close_picture : Array (Option Value)} {oc__law_close_picture kV__law_close_picture dc__law_close_picture pm__law_close_picture cd__law_close_picture ct__law_close_picture : Value} {f__law_close_picture : Addr}
    {od__law_squared an__law_squared : Option Addr} {sl__law_squared : Array (Option Value)} {oc__law_squared kV__law_squared dc__law_squared pm__law_squared cd__law_squared ct__law_squared : Value} {f__law_squared : Addr}
    {od__law_couples an__law_couples : Option Addr} {sl__law_couples : Array (Option Value)} {oc__law_couples kV__law_couples dc__law_couples pm__law_couples cd__law_couples ct__law_couples : Value} {f__law_couples : Addr}
    {od_law an_law : Option Addr} {sl_law : Array (Option Value)} {oc_law kV_law dc_law pm_law cd_law ct_law : Value} {f_law : Addr}
    (a_squared : PySem.W.nsIn K mainGlobals "squared" = some (some (.ref f_squared))) (l_squared : K.lookup f_squared = some ⟨oc_squared, od_squared, .func (PySem.W.fnOf "squared" "squared" (defArgs s_squared) (defBody s_squared) (defScope s_squared) .none kV_squared dc_squared pm_squared an_squared cd_squared ct_squared), sl_squared⟩) (c_squared : PySem.W.codeIn K cd_squared "squared" = true) (k_squared : PySem.W.keepIn K (.ref f_squared) = true)
    (a_rows_of : PySem.W.nsIn K mainGlobals "rows_of" = some (some (.ref f_rows_of))) (l_rows_of : K.lookup f_rows_of = some ⟨oc_rows_of, od_rows_of, .func (PySem.W.fnOf "rows_of" "rows_of" (defArgs s_rows_of) (defBody s_rows_of) (defScope s_rows_of) .none kV_rows_of dc_rows_of pm_rows_of an_rows_of cd_rows_of ct_rows_of), sl_rows_of⟩) (c_rows_of : PySem.W.codeIn K cd_rows_of "rows_of" = true) (k_rows_of : PySem.W.keepIn K (.ref f_rows_of) = true)
    (a_seats_of : PySem.W.nsIn K mainGlobals "seats_of" = some (some (.ref f_seats_of))) (l_seats_of : K.lookup f_seats_of = some ⟨oc_seats_of, od_seats_of, .func (PySem.W.fnOf "seats_of" "seats_of" (defArgs s_seats_of) (defBody s_seats_of) (defScope s_seats_of) .none kV_seats_of dc_seats_of pm_seats_of an_seats_of cd_seats_of ct_seats_of), sl_seats_of⟩) (c_seats_of : PySem.W.codeIn K cd_seats_of "seats_of" = true) (k_seats_of : PySem.W.keepIn K (.ref f_seats_of) = true)
    (a_first_near : PySem.W.nsIn K mainGlobals "first_near" = some (some (.ref f_first_near))) (l_first_near : K.lookup f_first_near = some ⟨oc_first_near, od_first_near, .func (PySem.W.fnOf "first_near" "first_near" (defArgs s_first_near) (defBody s_first_near) (defScope s_first_near) .none kV_first_near dc_first_near pm_first_near an_first_near cd_first_near ct_first_near), sl_first_near⟩) (c_first_near : PySem.W.codeIn K cd_first_near "first_near" = true) (k_first_near : PySem.W.keepIn K (.ref f_first_near) = true)
    (a_are_spaced : PySem.W.nsIn K mainGlobals "are_spaced" = some (some (.ref f_are_spaced))) (l_are_spaced : K.lookup f_are_spaced = some ⟨oc_are_spaced, od_are_spaced, .func (PySem.W.fnOf "are_spaced" "are_spaced" (defArgs s_are_spaced) (defBody s_are_spaced) (defScope s_are_spaced) .none kV_are_spaced dc_are_spaced pm_are_spaced an_are_spaced cd_are_spaced ct_are_spaced), sl_are_spaced⟩) (c_are_spaced : PySem.W.codeIn K cd_are_spaced "are_spaced" = true) (k_are_spaced : PySem.W.keepIn K (.ref f_are_spaced) = true)
    (a_closest : PySem.W.nsIn K mainGlobals "closest" = some (some (.ref f_closest))) (l_closest : K.lookup f_closest = some ⟨oc_closest, od_closest, .func (PySem.W.fnOf "closest" "closest" (defArgs s_closest) (defBody s_closest) (defScope s_closest) .none kV_closest dc_closest pm_closest an_closest cd_closest ct_closest), sl_closest⟩) (c_closest : PySem.W.codeIn K cd_closest "closest" = true) (k_closest : PySem.W.keepIn K (.ref f_closest) = true)
    (a_lamp_at : PySem.W.nsIn K mainGlobals "lamp_at" = some (some (.ref f_lamp_at))) (l_lamp_at : K.lookup f_lamp_at = some ⟨oc_lamp_at, od_lamp_at, .func (PySem.W.fnOf "lamp_at" "lamp_at" (defArgs s_lamp_at) (defBody s_lamp_at) (defScope s_lamp_at) .none kV_lamp_at dc_lamp_at pm_lamp_at an_lamp_at cd_lamp_at ct_lamp_at), sl_lamp_at⟩) (c_lamp_at : PySem.W.codeIn K cd_lamp_at "lamp_at" = true) (k_lamp_at : PySem.W.keepIn K (.ref f_lamp_at) = true)
    (a_depth_of : PySem.W.nsIn K mainGlobals "depth_of" = some (some (.ref f_depth_of))) (l_depth_of : K.lookup f_depth_of = some ⟨oc_depth_of, od_depth_of, .func (PySem.W.fnOf "depth_of" "depth_of" (defArgs s_depth_of) (defBody s_depth_of) (defScope s_depth_of) .none kV_depth_of dc_depth_of pm_depth_of an_depth_of cd_depth_of ct_depth_of), sl_depth_of⟩) (c_depth_of : PySem.W.codeIn K cd_depth_of "depth_of" = true) (k_depth_of : PySem.W.keepIn K (.ref f_depth_of) = true)
    (a__law_bag : PySem.W.nsIn K mainGlobals "_law_bag" = some (some (.ref f__law_bag))) (l__law_bag : K.lookup f__law_bag = some ⟨oc__law_bag, od__law_bag, .func (PySem.W.fnOf "_law_bag" "_law_bag" (defArgs s__law_bag) (defBody s__law_bag) (defScope s__law_bag) .none kV__law_bag dc__law_bag pm__law_bag an__law_bag cd__law_bag ct__law_bag), sl__law_bag⟩) (c__law_bag : PySem.W.codeIn K cd__law_bag "_law_bag" = true) (k__law_bag : PySem.W.keepIn K (.ref f__law_bag) = true)
    (a__law_take : PySem.W.nsIn K mainGlobals "_law_take" = some (some (.ref f__law_take))) (l__law_take : K.lookup f__law_take = some ⟨oc__law_take, od__law_take, .func (PySem.W.fnOf "_law_take" "_law_take" (defArgs s__law_take) (defBody s__law_take) (defScope s__law_take) .none kV__law_take dc__law_take pm__law_take an__law_take cd__law_take ct__law_take), sl__law_take⟩) (c__law_take : PySem.W.codeIn K cd__law_take "_law_take" = true) (k__law_take : PySem.W.keepIn K (.ref f__law_take) = true)
    (a__law_some : PySem.W.nsIn K mainGlobals "_law_some" = some (some (.ref f__law_some))) (l__law_some : K.lookup f__law_some = some ⟨oc__law_some, od__law_some, .func (PySem.W.fnOf "_law_some" "_law_some" (defArgs s__law_some) (defBody s__law_some) (defScope s__law_some) .none kV__law_some dc__law_some pm__law_some an__law_some cd__law_some ct__law_some), sl__law_some⟩) (c__law_some : PySem.W.codeIn K cd__law_some "_law_some" = true) (k__law_some : PySem.W.keepIn K (.ref f__law_some) = true)
    (a__law_alike : PySem.W.nsIn K mainGlobals "_law_alike" = some (some (.ref f__law_alike))) (l__law_alike : K.lookup f__law_alike = some ⟨oc__law_alike, od__law_alike, .func (PySem.W.fnOf "_law_alike" "_law_alike" (defArgs s__law_alike) (defBody s__law_alike) (defScope s__law_alike) .none kV__law_alike dc__law_alike pm__law_alike an__law_alike cd__law_alike ct__law_alike), sl__law_alike⟩) (c__law_alike : PySem.W.codeIn K cd__law_alike "_law_alike" = true) (k__law_alike : PySem.W.keepIn K (.ref f__law_alike) = true)
    (a__law_dot : PySem.W.nsIn K mainGlobals "_law_dot" = some (some (.ref f__law_dot))) (l__law_dot : K.lookup f__law_dot = some ⟨oc__law_dot, od__law_dot, .func (PySem.W.fnOf "_law_dot" "_law_dot" (defArgs s__law_dot) (defBody s__law_dot) (defScope s__law_dot) .none kV__law_dot dc__law_dot pm__law_dot an__law_dot cd__law_dot ct__law_dot), sl__law_dot⟩) (c__law_dot : PySem.W.codeIn K cd__law_dot "_law_dot" = true) (k__law_dot : PySem.W.keepIn K (.ref f__law_dot) = true)
    (a__law_shades : PySem.W.nsIn K mainGlobals "_law_shades" = some (some (.ref f__law_shades))) (l__law_shades : K.lookup f__law_shades = some ⟨oc__law_shades, od__law_shades, .func (PySem.W.fnOf "_law_shades" "_law_shades" (defArgs s__law_shades) (defBody s__law_shades) (defScope s__law_shades) .none kV__law_shades dc__law_shades pm__law_shades an__law_shades cd__law_shades ct__law_shades), sl__law_shades⟩) (c__law_shades : PySem.W.codeIn K cd__law_shades "_law_shades" = true) (k__law_shades : PySem.W.keepIn K (.ref f__law_shades) = true)
    (a__law_shape : PySem.W.nsIn K mainGlobals "_law_shape" = some (some (.ref f__law_shape))) (l__law_shape : K.lookup f__law_shape = some ⟨oc__law_shape, od__law_shape, .func (PySem.W.fnOf "_law_shape" "_law_shape" (defArgs s__law_shape) (defBody s__law_shape) (defScope s__law_shape) .none kV__law_shape dc__law_shape pm__law_shape an__law_shape cd__law_shape ct__law_shape), sl__law_shape⟩) (c__law_shape : PySem.W.codeIn K cd__law_shape "_law_shape" = true) (k__law_shape : PySem.W.keepIn K (.ref f__law_shape) = true)
    (a__law_rows : PySem.W.nsIn K mainGlobals "_law_rows" = some (some (.ref f__law_rows))) (l__law_rows : K.lookup f__law_rows = some ⟨oc__law_rows, od__law_rows, .func (PySem.W.fnOf "_law_rows" "_law_rows" (defArgs s__law_rows) (defBody s__law_rows) (defScope s__law_rows) .none kV__law_rows dc__law_rows pm__law_rows an__law_rows cd__law_rows ct__law_rows), sl__law_rows⟩) (c__law_rows : PySem.W.codeIn K cd__law_rows "_law_rows" = true) (k__law_rows : PySem.W.keepIn K (.ref f__law_rows) = true)
    (a__law_seats : PySem.W.nsIn K mainGlobals "_law_seats" = some (some (.ref f__law_seats))) (l__law_seats : K.lookup f__law_seats = some ⟨oc__law_seats, od__law_seats, .func (PySem.W.fnOf "_law_seats" "_law_seats" (defArgs s__law_seats) (defBody s__law_seats) (defScope s__law_seats) .none kV__law_seats dc__law_seats pm__law_seats an__law_seats cd__law_seats ct__law_seats), sl__law_seats⟩) (c__law_seats : PySem.W.codeIn K cd__law_seats "_law_seats" = true) (k__law_seats : PySem.W.keepIn K (.ref f__law_seats) = true)
    (a__law_close_picture : PySem.W.nsIn K mainGlobals "_law_close_picture" = some (some (.ref f__law_close_picture))) (l__law_close_picture : K.lookup f__law_close_picture = some ⟨oc__law_close_picture, od__law_close_picture, .func (PySem.W.fnOf "_law_close_picture" "_law_close_picture" (defArgs s__law_close_picture) (defBody s__law_close_picture) (defScope s__law_close_picture) .none kV__law_close_picture dc__law_close_picture pm__law_close_picture an__law_close_picture cd__law_close_picture ct__law_close_picture), sl__law_close_picture⟩) (c__law_close_picture : PySem.W.codeIn K cd__law_close_picture "_law_close_picture" = true) (k__law_close_picture : PySem.W.keepIn K (.ref f__law_close_picture) = true)
    (a__law_squared : PySem.W.nsIn K mainGlobals "_law_squared" = some (some (.ref f__law_squared))) (l__law_squared : K.lookup f__law_squared = some ⟨oc__law_squared, od__law_squared, .func (PySem.W.fnOf "_law_squared" "_law_squared" (defArgs s__law_squared) (defBody s__law_squared) (defScope s__law_squared) .none kV__law_squared dc__law_squared pm__law_squared an__law_squared cd__law_squared ct__law_squared), sl__law_squared⟩) (c__law_squared : PySem.W.codeIn K cd__law_squared "_law_squared" = true) (k__law_squared : PySem.W.keepIn K (.ref f__law_squared) = true)
    (a__law_couples : PySem.W.nsIn K mainGlobals "_law_couples" = some (some (.ref f__law_couples))) (l__law_couples : K.lookup f__law_couples = some ⟨oc__law_couples, od__law_couples, .func (PySem.W.fnOf "_law_couples" "_law_couples" (defArgs s__law_couples) (defBody s__law_couples) (defScope s__law_couples) .none kV__law_couples dc__law_couples pm__law_couples an__law_couples cd__law_couples ct__law_couples), sl__law_couples⟩) (c__law_couples : PySem.W.codeIn K cd__law_couples "_law_couples" = true) (k__law_couples : PySem.W.keepIn K (.ref f__law_couples) = true)
    (a_law : PySem.W.nsIn K mainGlobals "law" = some (some (.ref f_law))) (l_law : K.lookup f_law = some ⟨oc_law, od_law, .func (PySem.W.fnOf "law" "law" (defArgs s_law) (defBody s_law) (defScope s_law) .none kV_law dc_law pm_law an_law cd_law ct_law), sl_law⟩) (c_law : PySem.W.codeIn K cd_law "law" = true) (k_law : PySem.W.keepIn K (.ref f_law) = true)
    (z_abs : PySem.W.nsIn K mainGlobals "abs" = some none)
    (z_enumerate : PySem.W.nsIn K mainGlobals "enumerate" = some none)
    (z_int : PySem.W.nsIn K mainGlobals "int" = some none)
    (z_len : PySem.W.nsIn K mainGlobals "len" = some none)
    (z_list : PySem.W.nsIn K mainGlobals "list" = some none)
    (z_max : PySem.W.nsIn K mainGlobals "max" = some none)
    (z_min : PySem.W.nsIn K mainGlobals "min" = some none)
    (z_range : PySem.W.nsIn K mainGlobals "range" = some none)
    (z_repr : PySem.W.nsIn K mainGlobals "repr" = some none)
    (z_set : PySem.W.nsIn K mainGlobals "set" = some none)
    (z_sorted : PySem.W.nsIn K mainGlobals "sorted" = some none)
    (z_tuple : PySem.W.nsIn K mainGlobals "tuple" = some none)
    (z_zip : PySem.W.nsIn K mainGlobals "zip" = some none) :
    ∃ fd : FuncData, (∀ (s : Shared) (v : Value), BindsTo s fd ⟨[v], []⟩ [("_law_script", v)]) ∧ ∀ base : Heap, K.In base → base.Ns mainGlobals mg → FnG l.prog w K mg base CX0 9 fa fd ["_law_script"] (spOf K sp_law) := by
  have e := hfa.symm.trans (PySem.W.mg_of X G a_law)
  cases e
  have F_squared := fun_mk (st := s_squared) l_squared c_squared k_squared
  have b_squared := F_squared.binds (ps := ["one", "other"]) fun _ _ _ _ _ _ us hl => match us, hl with | [_, _], _ => rfl
  have F_rows_of := fun_mk (st := s_rows_of) l_rows_of c_rows_of k_rows_of
  have b_rows_of := F_rows_of.binds (ps := ["picture", "spacing"]) fun _ _ _ _ _ _ us hl => match us, hl with | [_, _], _ => rfl
  have F_seats_of := fun_mk (st := s_seats_of) l_seats_of c_seats_of k_seats_of
  have b_seats_of := F_seats_of.binds (ps := ["picture", "spacing"]) fun _ _ _ _ _ _ us hl => match us, hl with | [_, _], _ => rfl
  have F_first_near := fun_mk (st := s_first_near) l_first_near c_first_near k_first_near
  have b_first_near := F_first_near.binds (ps := ["columns", "spacing"]) fun _ _ _ _ _ _ us hl => match us, hl with | [_, _], _ => rfl
  have F_are_spaced := fun_mk (st := s_are_spaced) l_are_spaced c_are_spaced k_are_spaced
  have b_are_spaced := F_are_spaced.binds (ps := ["columns", "spacing"]) fun _ _ _ _ _ _ us hl => match us, hl with | [_, _], _ => rfl
  have F_closest := fun_mk (st := s_closest) l_closest c_closest k_closest
  have b_closest := F_closest.binds (ps := ["columns"]) fun _ _ _ _ _ _ us hl => match us, hl with | [_], _ => rfl
  have F_lamp_at := fun_mk (st := s_lamp_at) l_lamp_at c_lamp_at k_lamp_at
  have b_lamp_at := F_lamp_at.binds (ps := ["picture", "spacing", "column"]) fun _ _ _ _ _ _ us hl => match us, hl with | [_, _, _], _ => rfl
  have F_depth_of := fun_mk (st := s_depth_of) l_depth_of c_depth_of k_depth_of
  have b_depth_of := F_depth_of.binds (ps := ["picture", "spacing"]) fun _ _ _ _ _ _ us hl => match us, hl with | [_, _], _ => rfl
  have F__law_bag := fun_mk (st := s__law_bag) l__law_bag c__law_bag k__law_bag
  have b__law_bag := F__law_bag.binds (ps := ["_law_script"]) fun _ _ _ _ _ _ us hl => match us, hl with | [_], _ => rfl
  have F__law_take := fun_mk (st := s__law_take) l__law_take c__law_take k__law_take
  have b__law_take := F__law_take.binds (ps := ["_law_bag_here", "_law_many"]) fun _ _ _ _ _ _ us hl => match us, hl with | [_, _], _ => rfl
  have F__law_some := fun_mk (st := s__law_some) l__law_some c__law_some k__law_some
  have b__law_some := F__law_some.binds (ps := ["_law_bag_here", "_law_things"]) fun _ _ _ _ _ _ us hl => match us, hl with | [_, _], _ => rfl
  have F__law_alike := fun_mk (st := s__law_alike) l__law_alike c__law_alike k__law_alike
  have b__law_alike := F__law_alike.binds (ps := ["_law_found", "_law_due"]) fun _ _ _ _ _ _ us hl => match us, hl with | [_, _], _ => rfl
  have F__law_dot := fun_mk (st := s__law_dot) l__law_dot c__law_dot k__law_dot
  have b__law_dot := F__law_dot.binds (ps := ["_law_bag_here", "_law_wide"]) fun _ _ _ _ _ _ us hl => match us, hl with | [_, _], _ => rfl
  have F__law_shades := fun_mk (st := s__law_shades) l__law_shades c__law_shades k__law_shades
  have b__law_shades := F__law_shades.binds (ps := ["_law_bag_here"]) fun _ _ _ _ _ _ us hl => match us, hl with | [_], _ => rfl
  have F__law_shape := fun_mk (st := s__law_shape) l__law_shape c__law_shape k__law_shape
  have b__law_shape := F__law_shape.binds (ps := ["_law_points"]) fun _ _ _ _ _ _ us hl => match us, hl with | [_], _ => rfl
  have F__law_rows := fun_mk (st := s__law_rows) l__law_rows c__law_rows k__law_rows
  have b__law_rows := F__law_rows.binds (ps := ["_law_picture", "_law_spacing"]) fun _ _ _ _ _ _ us hl => match us, hl with | [_, _], _ => rfl
  have F__law_seats := fun_mk (st := s__law_seats) l__law_seats c__law_seats k__law_seats
  have b__law_seats := F__law_seats.binds (ps := ["_law_picture", "_law_spacing"]) fun _ _ _ _ _ _ us hl => match us, hl with | [_, _], _ => rfl
  have F__law_close_picture := fun_mk (st := s__law_close_picture) l__law_close_picture c__law_close_picture k__law_close_picture
  have b__law_close_picture := F__law_close_picture.binds (ps := ["_law_bag_here"]) fun _ _ _ _ _ _ us hl => match us, hl with | [_], _ => rfl
  have F__law_squared := fun_mk (st := s__law_squared) l__law_squared c__law_squared k__law_squared
  have b__law_squared := F__law_squared.binds (ps := ["_law_one", "_law_other"]) fun _ _ _ _ _ _ us hl => match us, hl with | [_, _], _ => rfl
  have F__law_couples := fun_mk (st := s__law_couples) l__law_couples c__law_couples k__law_couples
  have b__law_couples := F__law_couples.binds (ps := ["_law_columns"]) fun _ _ _ _ _ _ us hl => match us, hl with | [_], _ => rfl
  have F_law := fun_mk (st := s_law) l_law c_law k_law
  have b_law := F_law.binds (ps := ["_law_script"]) fun _ _ _ _ _ _ us hl => match us, hl with | [_], _ => rfl
  let T : Tp K mg := {
    f_squared := _, fd_squared := _, F_squared := F_squared, m_squared := PySem.W.mg_of X G a_squared, b_squared := b_squared,
    f_rows_of := _, fd_rows_of := _, F_rows_of := F_rows_of, m_rows_of := PySem.W.mg_of X G a_rows_of, b_rows_of := b_rows_of,
    f_seats_of := _, fd_seats_of := _, F_seats_of := F_seats_of, m_seats_of := PySem.W.mg_of X G a_seats_of, b_seats_of := b_seats_of,
    f_first_near := _, fd_first_near := _, F_first_near := F_first_near, m_first_near := PySem.W.mg_of X G a_first_near, b_first_near := b_first_near,
    f_are_spaced := _, fd_are_spaced := _, F_are_spaced := F_are_spaced, m_are_spaced := PySem.W.mg_of X G a_are_spaced, b_are_spaced := b_are_spaced,
    f_closest := _, fd_closest := _, F_closest := F_closest, m_closest := PySem.W.mg_of X G a_closest, b_closest := b_closest,
    f_lamp_at := _, fd_lamp_at := _, F_lamp_at := F_lamp_at, m_lamp_at := PySem.W.mg_of X G a_lamp_at, b_lamp_at := b_lamp_at,
    f_depth_of := _, fd_depth_of := _, F_depth_of := F_depth_of, m_depth_of := PySem.W.mg_of X G a_depth_of, b_depth_of := b_depth_of,
    f__law_bag := _, fd__law_bag := _, F__law_bag := F__law_bag, m__law_bag := PySem.W.mg_of X G a__law_bag, b__law_bag := b__law_bag,
    f__law_take := _, fd__law_take := _, F__law_take := F__law_take, m__law_take := PySem.W.mg_of X G a__law_take, b__law_take := b__law_take,
    f__law_some := _, fd__law_some := _, F__law_some := F__law_some, m__law_some := PySem.W.mg_of X G a__law_some, b__law_some := b__law_some,
    f__law_alike := _, fd__law_alike := _, F__law_alike := F__law_alike, m__law_alike := PySem.W.mg_of X G a__law_alike, b__law_alike := b__law_alike,
    f__law_dot := _, fd__law_dot := _, F__law_dot := F__law_dot, m__law_dot := PySem.W.mg_of X G a__law_dot, b__law_dot := b__law_dot,
    f__law_shades := _, fd__law_shades := _, F__law_shades := F__law_shades, m__law_shades := PySem.W.mg_of X G a__law_shades, b__law_shades := b__law_shades,
    f__law_shape := _, fd__law_shape := _, F__law_shape := F__law_shape, m__law_shape := PySem.W.mg_of X G a__law_shape, b__law_shape := b__law_shape,
    f__law_rows := _, fd__law_rows := _, F__law_rows := F__law_rows, m__law_rows := PySem.W.mg_of X G a__law_rows, b__law_rows := b__law_rows,
    f__law_seats := _, fd__law_seats := _, F__law_seats := F__law_seats, m__law_seats := PySem.W.mg_of X G a__law_seats, b__law_seats := b__law_seats,
    f__law_close_picture := _, fd__law_close_picture := _, F__law_close_picture := F__law_close_picture, m__law_close_picture := PySem.W.mg_of X G a__law_close_picture, b__law_close_picture := b__law_close_picture,
    f__law_squared := _, fd__law_squared := _, F__law_squared := F__law_squared, m__law_squared := PySem.W.mg_of X G a__law_squared, b__law_squared := b__law_squared,
    f__law_couples := _, fd__law_couples := _, F__law_couples := F__law_couples, m__law_couples := PySem.W.mg_of X G a__law_couples, b__law_couples := b__law_couples,
    f_law := _, fd_law := _, F_law := F_law, m_law := PySem.W.mg_of X G a_law, b_law := b_law,
    z_abs := PySem.W.mg_none_of X G z_abs,
    z_enumerate := PySem.W.mg_none_of X G z_enumerate,
    z_int := PySem.W.mg_none_of X G z_int,
    z_len := PySem.W.mg_none_of X G z_len,
    z_list := PySem.W.mg_none_of X G z_list,
    z_max := PySem.W.mg_none_of X G z_max,
    z_min := PySem.W.mg_none_of X G z_min,
    z_range := PySem.W.mg_none_of X G z_range,
    z_repr := PySem.W.mg_none_of X G z_repr,
    z_set := PySem.W.mg_none_of X G z_set,
    z_sorted := PySem.W.mg_none_of X G z_sorted,
    z_tuple := PySem.W.mg_none_of X G z_tuple,
    z_zip := PySem.W.mg_none_of X G z_zip }
  refine ⟨T.fd_law, fun s v => .of_eq rfl, fun base _ _ => ?_⟩
  have G__law_bag := ok__law_bag (P := l.prog) (w := w) (base := base) T 
  have G__law_take := ok__law_take (P := l.prog) (w := w) (base := base) T 
  have G__law_some := ok__law_some (P := l.prog) (w := w) (base := base) T G__law_take
  have G__law_alike := ok__law_alike (P := l.prog) (w := w) (base := base) T 
  have G_squared := ok_squared (P := l.prog) (w := w) (base := base) T 
  have G__law_squared := ok__law_squared (P := l.prog) (w := w) (base := base) T 
  have G_rows_of := ok_rows_of (P := l.prog) (w := w) (base := base) T 
  have G__law_rows := ok__law_rows (P := l.prog) (w := w) (base := base) T 
  have G_seats_of := ok_seats_of (P := l.prog) (w := w) (base := base) T G_rows_of
  have G__law_seats := ok__law_seats (P := l.prog) (w := w) (base := base) T G__law_rows
  have G_first_near := ok_first_near (P := l.prog) (w := w) (base := base) T G_squared
  have G_are_spaced := ok_are_spaced (P := l.prog) (w := w) (base := base) T G_first_near
  have G_closest := ok_closest (P := l.prog) (w := w) (base := base) T G_squared
  have G_lamp_at := ok_lamp_at (P := l.prog) (w := w) (base := base) T G_rows_of
  have G_depth_of := ok_depth_of (P := l.prog) (w := w) (base := base) T G_seats_of
  have G__law_dot := ok__law_dot (P := l.prog) (w := w) (base := base) T G__law_take
  have G__law_shades := ok__law_shades (P := l.prog) (w := w) (base := base) T G__law_some
  have G__law_shape := ok__law_shape (P := l.prog) (w := w) (base := base) T 
  have G__law_couples := ok__law_couples (P := l.prog) (w := w) (base := base) T G__law_squared
  have G__law_close_picture := ok__law_close_picture (P := l.prog) (w := w) (base := base) T G__law_take G__law_some G__law_shades G__law_shape
  have G_law := ok_law (P := l.prog) (w := w) (base := base) T G__law_bag G__law_take G__law_some G__law_alike G__law_dot G__law_couples G_first_near G_are_spaced G_closest G__law_close_picture G__law_seats G_seats_of G_depth_of G_lamp_at
  exact G_law
end
end My
open PySem PySem.W PyProof.Rows
set_option maxRecDepth 100000 in
set_option maxHeartbeats 0 in
theorem PySem.Challenge.cw_lampsaloft_k17_seats_and_columns_holds : PySem.Challenge.rw_lampsaloft_k17_seats_and_columns.Holds := by
  w_on; o_law; k_head; (case hw => w_witness2)
  k_fill
  refine Dl.walk_g (l := PySem.Challenge.rw_lampsaloft_k17_seats_and_columns) (n := 9) (x := "_law_script") (sp := My.sp_law) rfl rfl ⟨rfl, by decide, by decide⟩ (fun w h Y => PySem.W.kIn_of Y) ?F My.law_true
  case F =>
    intro w mg fa h KX G hmg
    refine' My.all_mk KX G hmg ?a_squared ?l_squared ?c_squared ?k_squared ?a_rows_of ?l_rows_of ?c_rows_of ?k_rows_of ?a_seats_of ?l_seats_of ?c_seats_of ?k_seats_of ?a_first_near ?l_first_near ?c_first_near ?k_first_near ?a_are_spaced ?l_are_spaced ?c_are_spaced ?k_are_spaced ?a_closest ?l_closest ?c_closest ?k_closest ?a_lamp_at ?l_lamp_at ?c_lamp_at ?k_lamp_at ?a_depth_of ?l_depth_of ?c_depth_of ?k_depth_of ?a__law_bag ?l__law_bag ?c__law_bag ?k__law_bag ?a__law_take ?l__law_take ?c__law_take ?k__law_take ?a__law_some ?l__law_some ?c__law_some ?k__law_some ?a__law_alike ?l__law_alike ?c__law_alike ?k__law_alike ?a__law_dot ?l__law_dot ?c__law_dot ?k__law_dot ?a__law_shades ?l__law_shades ?c__law_shades ?k__law_shades ?a__law_shape ?l__law_shape ?c__law_shape ?k__law_shape ?a__law_rows ?l__law_rows ?c__law_rows ?k__law_rows ?a__law_seats ?l__law_seats ?c__law_seats ?k__law_seats ?a__law_close_picture ?l__law_close_picture ?c__law_close_picture ?k__law_close_picture ?a__law_squared ?l__law_squared ?c__law_squared ?k__law_squared ?a__law_couples ?l__law_couples ?c__law_couples ?k__law_couples ?a_law ?l_law ?c_law ?k_law ?z_abs ?z_enumerate ?z_int ?z_len ?z_list ?z_max ?z_min ?z_range ?z_repr ?z_set ?z_sorted ?z_tuple ?z_zip
    (case a_squared => k_is); (case l_squared => k_is); (case c_squared => k_is); (case k_squared => k_is); (case a_rows_of => k_is); (case l_rows_of => k_is); (case c_rows_of => k_is); (case k_rows_of => k_is); (case a_seats_of => k_is); (case l_seats_of => k_is); (case c_seats_of => k_is); (case k_seats_of => k_is); (case a_first_near => k_is); (case l_first_near => k_is); (case c_first_near => k_is); (case k_first_near => k_is); (case a_are_spaced => k_is); (case l_are_spaced => k_is); (case c_are_spaced => k_is); (case k_are_spaced => k_is); (case a_closest => k_is); (case l_closest => k_is); (case c_closest => k_is); (case k_closest => k_is); (case a_lamp_at => k_is); (case l_lamp_at => k_is); (case c_lamp_at => k_is); (case k_lamp_at => k_is); (case a_depth_of => k_is); (case l_depth_of => k_is); (case c_depth_of => k_is); (case k_depth_of => k_is); (case a__law_bag => k_is); (case l__law_bag => k_is); (case c__law_bag => k_is); (case k__law_bag => k_is); (case a__law_take => k_is); (case l__law_take => k_is); (case c__law_take => k_is); (case k__law_take => k_is); (case a__law_some => k_is); (case l__law_some => k_is); (case c__law_some => k_is); (case k__law_some => k_is); (case a__law_alike => k_is); (case l__law_alike => k_is); (case c__law_alike => k_is); (case k__law_alike => k_is); (case a__law_dot => k_is); (case l__law_dot => k_is); (case c__law_dot => k_is); (case k__law_dot => k_is); (case a__law_shades => k_is); (case l__law_shades => k_is); (case c__law_shades => k_is); (case k__law_shades => k_is); (case a__law_shape => k_is); (case l__law_shape => k_is); (case c__law_shape => k_is); (case k__law_shape => k_is); (case a__law_rows => k_is); (case l__law_rows => k_is); (case c__law_rows => k_is); (case k__law_rows => k_is); (case a__law_seats => k_is); (case l__law_seats => k_is); (case c__law_seats => k_is); (case k__law_seats => k_is); (case a__law_close_picture => k_is); (case l__law_close_picture => k_is); (case c__law_close_picture => k_is); (case k__law_close_picture => k_is); (case a__law_squared => k_is); (case l__law_squared => k_is); (case c__law_squared => k_is); (case k__law_squared => k_is); (case a__law_couples => k_is); (case l__law_couples => k_is); (case c__law_couples => k_is); (case k__law_couples => k_is); (case a_law => k_is); (case l_law => k_is); (case c_law => k_is); (case k_law => k_is); (case z_abs => k_is); (case z_enumerate => k_is); (case z_int => k_is); (case z_len => k_is); (case z_list => k_is); (case z_max => k_is); (case z_min => k_is); (case z_range => k_is); (case z_repr => k_is); (case z_set => k_is); (case z_sorted => k_is); (case z_tuple => k_is); (case z_zip => k_is)
