import PyProof.Rows.All
import Wide.All
import OpenK.AllK
import Wide.FinOn
import HandS.ForMost
import HandS.Exc
import HandS.TryOnly
import HandS.ExcOwn
import HandS.WordsExc
import HandS.ExcIs
import HandS.IsInst
import HandS.TupAny
import HandS.Deep
import HandS.TupLe
import HandS.TupMul
import HandS.SortOrd
import HandS.SortRule
import HandS.EndBits
import HandS.DictTup
import HandS.DictComp
import HandS.TupLen
import KE.KDictDisplayH
import KE.KDictKeyed
import KE.KeyNested
import KE.SortData
import HandS.SortInts
import KE.GoesMore
import HandS.Iter
import HandS.Zip
import HandS.Rev
import HandS.NoneIn
import HandS.More
import HandS.SetFor
import HandS.Strs
import HandS.Conv
import HandS.Style
import KE.KIndexWalk
import KE.KDictZip
import KE.KDictItemsList
import HandS.ListItems
import HandS.WideBits
import HandS.RevRange
import HandS.TupSets
import PySem.Challenge.RW_roadblind_k74_whole_safe_order
set_option Elab.async false
set_option linter.all false
set_option maxRecDepth 100000
set_option maxHeartbeats 4000000

/-! # PyI: a deep evaluator for Python bodies, sound over the hand layer. Values are PyData; a list that a slot owns may change. -/
namespace PyI
open PySem PySem.Spec L2

/-! ## keys of dicts -/
/-- what a key is: an int or a text, or a tuple of ints, bools, None and such tuples -/
inductive DK where
  | k (x : Key)
  | n (x : NestedKey)
  deriving DecidableEq
mutual
def nkOf : PyData → Option NestedKey
  | .none => some .none
  | .bool b => some (.num (if b = true then 1 else 0))
  | .int i => some (.num i)
  | .tuple ds => (nksOf ds).map .tup
  | .str _ => none
  | .list _ => none
  | .dict _ => none
def nksOf : List PyData → Option (List NestedKey)
  | [] => some []
  | d :: ds => match nkOf d, nksOf ds with
    | some k, some ks => some (k :: ks)
    | _, _ => none
end
def dkTup (ds : List PyData) : Option DK := match nksOf ds with
  | some ks => if (NestedKey.tup ks).depth ≤ 8 then some (.n (.tup ks)) else none
  | none => none
def dkOf : PyData → Option DK
  | .int i => some (.k (.inl i))
  | .str x => some (.k (.inr x))
  | .tuple ds => dkTup ds
  | _ => none
def lookP (ps : List (PyData × PyData)) (q : DK) : Option PyData := (ps.find? fun p => decide (dkOf p.1 = some q)).map (·.2)
def isN : DK → Bool
  | .n _ => true
  | .k _ => false
def kindOk (ps : List (PyData × PyData)) (q : DK) : Bool := match ps with
  | [] => true
  | p :: _ => match dkOf p.1 with
    | some q' => isN q' == isN q
    | none => false
/-- the dict's answer: none where it is not asked so -/
def getP (ps : List (PyData × PyData)) (d : PyData) : Option (Option PyData) := match dkOf d with
  | some q => if kindOk ps q = true then some (lookP ps q) else none
  | none => none
def putP (ps : List (PyData × PyData)) (q : DK) (d v : PyData) : List (PyData × PyData) :=
  if (lookP ps q).isSome = true then ps.map fun p => if dkOf p.1 = some q then (p.1, v) else p else ps ++ [(d, v)]
/-- a dict whose keys are tuples, by its one object -/
def entsN (w : World) : List (NestedKey × Addr × V) → List Value → List DictEntry
  | x :: xs, u :: us => ⟨x.1.hash w, .ref x.2.1, u⟩ :: entsN w xs us
  | _, _ => []
def DNok (a : Addr) (xs : List (NestedKey × Addr × V)) (h : Heap) : Prop :=
  xs.length ≤ sizeLine ∧ (a == sysModules) = false ∧ ∃ us, Vals (xs.map (·.2.2)) us ∧ ∃ o es ep, h.get? a = some o ∧ o.ExactDict ∧ o.data = .dict es ep ∧ (∀ w, es.toList = entsN w xs us) ∧ (xs.map (·.1)).Nodup

/-! ## values in the heap -/
/-- a tuple that has no dict of its own -/
def XT (K : PySem.W.Frag) (H : Hp) (a : Addr) (xs : List V) : Prop :=
  (∃ o, H a = some (.frz o (.tup xs)) ∧ o.dict = none) ∨
    ∃ (o : Obj) (its : Array Value) (n : Nat), K.lookup a = some o ∧ o.cls = .type "tuple" ∧ o.dict = none ∧ o.data = .seq its n ∧ its.size ≤ sizeLine ∧ Vals xs its.toList
theorem XT.sq {K : PySem.W.Frag} {H : Hp} {a : Addr} {xs : List V} (h : XT K H a xs) : SqT K H a xs := by
  rcases h with ⟨o, h, _⟩ | ⟨o, its, n, h1, h2, _, h3, h4, h5⟩
  · exact .inl (.inr ⟨o, h⟩)
  · exact .inr ⟨o, its, n, h1, h2, h3, h4, h5⟩
theorem XT.of {K : PySem.W.Frag} {H : Hp} {a : Addr} {xs : List V} {o : Obj} (h : H a = some (.frz o (.tup xs))) (d : o.dict = none) : XT K H a xs := .inl ⟨o, h, d⟩
theorem XT.mono {K : PySem.W.Frag} {H H' : Hp} {a : Addr} {xs : List V} (e : ∀ b o, H b = some o → H' b = some o) (h : XT K H a xs) : XT K H' a xs := by
  rcases h with ⟨o, h, d⟩ | h
  · exact .inl ⟨o, e _ _ h, d⟩
  · exact .inr h
/-- the object of a tuple that is made anew -/
def tobj (its : Array Value) (n : Nat) : Obj := { cls := .type "tuple", data := .seq its n }
mutual
inductive Rep (K : PySem.W.Frag) (H : Hp) : V → PyData → Prop
  | non : Rep K H .non .none
  | bl (b : Bool) : Rep K H (.bl b) (.bool b)
  | int (i : Int) : Rep K H (.int i) (.int i)
  | str (x : Str) : Rep K H (.str x) (.str x)
  | lst {a : Addr} {xs : List V} {ds : List PyData} : SqL K H a xs → Reps K H xs ds → Rep K H (.ref a) (.list ds)
  | tup {a : Addr} {xs : List V} {ds : List PyData} : XT K H a xs → Reps K H xs ds → Rep K H (.ref a) (.tuple ds)
  | dK {a : Addr} {kvs : List (Key × V)} {ps : List (PyData × PyData)} : H a = some (.dK kvs) → ps.map (fun p => dkOf p.1) = kvs.map (fun p => some (.k p.1)) → Reps K H (kvs.map (·.2)) (ps.map (·.2)) → Rep K H (.ref a) (.dict ps)
  | dN {a : Addr} {xs : List (NestedKey × Addr × V)} {ps : List (PyData × PyData)} : xs ≠ [] → H a = some (.ext (DNok a xs)) → ps.map (fun p => dkOf p.1) = xs.map (fun x => some (.n x.1)) →
      Reps K H (xs.map fun x => V.ref x.2.1) (ps.map (·.1)) → Reps K H (xs.map (·.2.2)) (ps.map (·.2)) → Rep K H (.ref a) (.dict ps)
inductive Reps (K : PySem.W.Frag) (H : Hp) : List V → List PyData → Prop
  | nil : Reps K H [] []
  | cons {v : V} {vs : List V} {d : PyData} {ds : List PyData} : Rep K H v d → Reps K H vs ds → Reps K H (v :: vs) (d :: ds)
end

theorem same_seqT {K : PySem.W.Frag} {H H' : Hp} {a : Addr} {xs : List V} (e : Same H H') (h : SqT K H a xs) : SqT K H' a xs := by
  rcases h with (h | ⟨o, h⟩) | h
  · exact .inl (.inl (e _ _ h))
  · exact .inl (.inr ⟨o, e _ _ h⟩)
  · exact .inr h

mutual
theorem Rep.mono {K : PySem.W.Frag} {H H' : Hp} (e : Same H H') : ∀ {v : V} {d : PyData}, Rep K H v d → Rep K H' v d
  | _, _, .non => .non
  | _, _, .bl b => .bl b
  | _, _, .int i => .int i
  | _, _, .str x => .str x
  | _, _, .lst h r => .lst (e.seq h) (Reps.mono e r)
  | _, _, .tup h r => .tup (h.mono e) (Reps.mono e r)
  | _, _, .dK h k r => .dK (e _ _ h) k (Reps.mono e r)
  | _, _, .dN n h k q r => .dN n (e _ _ h) k (Reps.mono e q) (Reps.mono e r)
theorem Reps.mono {K : PySem.W.Frag} {H H' : Hp} (e : Same H H') : ∀ {vs : List V} {ds : List PyData}, Reps K H vs ds → Reps K H' vs ds
  | _, _, .nil => .nil
  | _, _, .cons r t => .cons (Rep.mono e r) (Reps.mono e t)
end
mutual
theorem Rep.dp {K : PySem.W.Frag} {H : Hp} : ∀ {v : V} {d : PyData}, Rep K H v d → d.canLay0 = true → Dp K H v d
  | _, _, .non, _ => .non
  | _, _, .bl b, _ => .bl b
  | _, _, .int i, _ => .int i
  | _, _, .str x, _ => .str x
  | _, _, .lst h r, k => .lst h (Reps.dp r (by simpa [PyData.canLay0] using k))
  | _, _, .tup h r, k => .tup h.sq (Reps.dp r (by simpa [PyData.canLay0] using k))
  | _, _, .dK _ _ _, k => by simp [PyData.canLay0] at k
  | _, _, .dN _ _ _ _ _, k => by simp [PyData.canLay0] at k
theorem Reps.dp {K : PySem.W.Frag} {H : Hp} : ∀ {vs : List V} {ds : List PyData}, Reps K H vs ds → PyData.canLayAll0 ds = true → DpAll K H vs ds
  | _, _, .nil, _ => .nil
  | _, _, .cons (d := d) (ds := ds) r t, k => by
    have k' : d.canLay0 = true ∧ PyData.canLayAll0 ds = true := by simpa [PyData.canLayAll0] using k
    exact .cons (Rep.dp r k'.1) (Reps.dp t k'.2)
end
section
variable {K : PySem.W.Frag} {H : Hp}
theorem Reps.length : ∀ {vs : List V} {ds : List PyData}, Reps K H vs ds → vs.length = ds.length
  | _, _, .nil => rfl
  | _, _, .cons _ t => by simp [Reps.length t]
theorem Reps.append : ∀ {vs ws : List V} {ds es : List PyData}, Reps K H vs ds → Reps K H ws es → Reps K H (vs ++ ws) (ds ++ es)
  | _, _, _, _, .nil, s => s
  | _, _, _, _, .cons r t, s => .cons r (t.append s)
theorem Reps.one {v : V} {d : PyData} (r : Rep K H v d) : Reps K H [v] [d] := .cons r .nil
theorem Reps.get : ∀ {vs : List V} {ds : List PyData} {i : Nat} {d : PyData}, Reps K H vs ds → ds[i]? = some d → ∃ v, vs[i]? = some v ∧ Rep K H v d
  | _, _, _, _, .nil, e => by simp at e
  | _, _, 0, _, .cons r _, e => by simp at e; subst e; exact ⟨_, rfl, r⟩
  | _, _, i + 1, d, .cons _ t, e => by
    obtain ⟨v, h1, h2⟩ := t.get (i := i) (d := d) (by simpa using e)
    exact ⟨v, by simpa using h1, h2⟩
theorem Reps.getV : ∀ {vs : List V} {ds : List PyData} {i : Nat} {v : V}, Reps K H vs ds → vs[i]? = some v → ∃ d, ds[i]? = some d ∧ Rep K H v d
  | _, _, _, _, .nil, e => by simp at e
  | _, _, 0, _, .cons r _, e => by simp at e; subst e; exact ⟨_, rfl, r⟩
  | _, _, i + 1, d, .cons _ t, e => by
    obtain ⟨v, h1, h2⟩ := t.getV (i := i) (v := d) (by simpa using e)
    exact ⟨v, by simpa using h1, h2⟩
theorem Reps.take : ∀ {vs : List V} {ds : List PyData} (n : Nat), Reps K H vs ds → Reps K H (vs.take n) (ds.take n)
  | _, _, 0, _ => .nil
  | _, _, _ + 1, .nil => .nil
  | _, _, n + 1, .cons r t => .cons r (t.take n)
theorem Reps.drop : ∀ {vs : List V} {ds : List PyData} (n : Nat), Reps K H vs ds → Reps K H (vs.drop n) (ds.drop n)
  | _, _, 0, r => r
  | _, _, _ + 1, .nil => .nil
  | _, _, n + 1, .cons _ t => t.drop n
theorem Reps.set {v : V} {d : PyData} (r : Rep K H v d) : ∀ {vs : List V} {ds : List PyData} (i : Nat), Reps K H vs ds → Reps K H (vs.set i v) (ds.set i d)
  | _, _, _, .nil => .nil
  | _, _, 0, .cons _ t => .cons r t
  | _, _, i + 1, .cons q t => .cons q (t.set r i)
theorem Reps.dropLast : ∀ {vs : List V} {ds : List PyData}, Reps K H vs ds → Reps K H vs.dropLast ds.dropLast
  | _, _, .nil => .nil
  | _, _, .cons _ .nil => .nil
  | _, _, .cons r (.cons q t) => .cons r (Reps.dropLast (.cons q t))
theorem Reps.eraseIdx : ∀ {vs : List V} {ds : List PyData} (i : Nat), Reps K H vs ds → Reps K H (vs.eraseIdx i) (ds.eraseIdx i)
  | _, _, _, .nil => .nil
  | _, _, 0, .cons _ t => t
  | _, _, i + 1, .cons r t => .cons r (t.eraseIdx i)
theorem Reps.reverse {vs : List V} {ds : List PyData} (h : Reps K H vs ds) : Reps K H vs.reverse ds.reverse := by
  induction vs generalizing ds with
  | nil => cases h; exact .nil
  | cons v vs ih => cases h with | cons r t => simp only [List.reverse_cons]; exact (ih t).append (.one r)
theorem Reps.cut {vs : List V} {ds : List PyData} (h : Reps K H vs ds) (a b : Nat) : Reps K H ((vs.drop a).take b) ((ds.drop a).take b) := (h.drop a).take b
end

/-- values that need no heap -/
def flat : PyData → Bool
  | .none | .bool _ | .int _ | .str _ => true
  | _ => false
theorem Rep.flat_any {K K' : PySem.W.Frag} {H H' : Hp} {v : V} {d : PyData} (r : Rep K H v d) (f : flat d = true) : Rep K' H' v d := by
  cases r with
  | non => exact .non
  | bl b => exact .bl b
  | int i => exact .int i
  | str x => exact .str x
  | lst _ _ => cases f
  | tup _ _ => cases f
  | dK _ _ _ => cases f
  | dN _ _ _ _ _ => cases f

/-! ## slots -/
/-- what a slot owns: a list, a dict -/
inductive Cn where
  | lst (ds : List PyData)
  | dic (ps : List (PyData × PyData))
def cD : Cn → PyData
  | .lst ds => .list ds
  | .dic ps => .dict ps
inductive RepC (K : PySem.W.Frag) (B : Hp) (a : Addr) : HO → Cn → Prop
  | lst {vs : List V} {ds : List PyData} : Reps K B vs ds → RepC K B a (.lst vs) (.lst ds)
  | dK {kvs : List (Key × V)} {ps : List (PyData × PyData)} : ps.map (fun p => dkOf p.1) = kvs.map (fun p => some (.k p.1)) → Reps K B (kvs.map (·.2)) (ps.map (·.2)) → RepC K B a (.dK kvs) (.dic ps)
  | dN {xs : List (NestedKey × Addr × V)} {ps : List (PyData × PyData)} : xs ≠ [] → ps.map (fun p => dkOf p.1) = xs.map (fun x => some (.n x.1)) →
      Reps K B (xs.map fun x => V.ref x.2.1) (ps.map (·.1)) → Reps K B (xs.map (·.2.2)) (ps.map (·.2)) → RepC K B a (.ext (DNok a xs)) (.dic ps)
theorem RepC.mono {K : PySem.W.Frag} {B B' : Hp} {a : Addr} {u : HO} {c : Cn} (e : Same B B') (h : RepC K B a u c) : RepC K B' a u c := by
  cases h with
  | lst r => exact .lst (Reps.mono e r)
  | dK k r => exact .dK k (Reps.mono e r)
  | dN n k q r => exact .dN n k (Reps.mono e q) (Reps.mono e r)
theorem RepC.rep {K : PySem.W.Frag} {B : Hp} {a : Addr} {u : HO} {c : Cn} (h : RepC K B a u c) (e : B a = some u) : Rep K B (.ref a) (cD c) := by
  cases h with
  | lst r => exact .lst (SqL.of e) r
  | dK k r => exact .dK e k r
  | dN n k q r => exact .dN n e k q r
theorem RepC.lstV {K : PySem.W.Frag} {B : Hp} {a : Addr} {u : HO} {ds : List PyData} (h : RepC K B a u (.lst ds)) : ∃ vs, u = .lst vs ∧ Reps K B vs ds := by
  cases h with
  | lst r => exact ⟨_, rfl, r⟩
theorem RepC.mut {K : PySem.W.Frag} {B : Hp} {a : Addr} {u : HO} {c : Cn} (h : RepC K B a u c) : Mut (some u) := by
  cases h <;> exact True.intro
inductive Slot where
  | und
  | val (d : PyData)
  | ob (c : Cn)
abbrev Slot.own (ds : List PyData) : Slot := .ob (.lst ds)
abbrev Slot.dic (ps : List (PyData × PyData)) : Slot := .ob (.dic ps)
abbrev Ev := List Slot

/-- what a slot holds -/
def SlotOk (K : PySem.W.Frag) (H0 B H : Hp) : Option V → Slot → Prop
  | _, .und => True
  | o, .val d => ∃ v, o = some v ∧ Rep K B v d
  | o, .ob c => ∃ p u, o = some (.ref p) ∧ H p = some u ∧ B p = none ∧ H0 p = none ∧ RepC K B p u c

/-- the heap: H0, B0 at the entry; fx: things that are kept aside (not frozen, no slot's); B: what is frozen -/
structure HSim (H0 B0 : Hp) (fx : List (Addr × HO)) (B H : Hp) : Prop where
  sub : Same B H
  old : Same H0 H
  b0 : Same B0 B
  new : ∀ a o, B a = some o → B0 a = some o ∨ H0 a = none
  kept : ∀ p ∈ fx, H p.1 = some p.2 ∧ B p.1 = none ∧ H0 p.1 = none
  nd : (fx.map (·.1)).Nodup

structure Sim (K : PySem.W.Frag) (H0 B0 : Hp) (fx : List (Addr × HO)) (B H : Hp) (σ : St) (env : Ev) : Prop where
  h : HSim H0 B0 fx B H
  len : σ.length = env.length
  slot : ∀ (i : Nat) (s : Slot), env[i]? = some s → ∃ o : Option V, σ[i]? = some o ∧ SlotOk K H0 B H o s
  inj : ∀ (i j : Nat) (p : Addr) (xs ys : Cn), env[i]? = some (.ob xs) → env[j]? = some (.ob ys) → σ[i]? = some (some (V.ref p)) → σ[j]? = some (some (V.ref p)) → i = j
  fxo : ∀ p ∈ fx, ∀ (i : Nat) (xs : Cn), env[i]? = some (.ob xs) → σ[i]? ≠ some (some (V.ref p.1))

section
variable {K : PySem.W.Frag} {H0 B0 B H : Hp} {fx : List (Addr × HO)} {σ : St} {env : Ev}
theorem Sim.val (S : Sim K H0 B0 fx B H σ env) {i : Nat} {d : PyData} (e : env[i]? = some (.val d)) : ∃ v, σ[i]? = some (some v) ∧ Rep K B v d := by
  obtain ⟨o, h1, v, rfl, r⟩ := S.slot i _ e
  exact ⟨v, h1, r⟩
theorem Sim.ob (S : Sim K H0 B0 fx B H σ env) {i : Nat} {c : Cn} (e : env[i]? = some (.ob c)) : ∃ p u, σ[i]? = some (some (.ref p)) ∧ H p = some u ∧ B p = none ∧ H0 p = none ∧ RepC K B p u c := by
  obtain ⟨o, h1, p, vs, rfl, r⟩ := S.slot i _ e
  exact ⟨p, vs, h1, r⟩
theorem Sim.own (S : Sim K H0 B0 fx B H σ env) {i : Nat} {ds : List PyData} (e : env[i]? = some (.own ds)) : ∃ p vs, σ[i]? = some (some (.ref p)) ∧ H p = some (.lst vs) ∧ B p = none ∧ H0 p = none ∧ Reps K B vs ds := by
  obtain ⟨p, u, h1, h2, h3, h4, r⟩ := S.ob e
  obtain ⟨vs, rfl, r2⟩ := r.lstV
  exact ⟨p, vs, h1, h2, h3, h4, r2⟩
theorem same_upd {H : Hp} {p : Addr} {o : HO} (h : H p = none) : Same H (upd H p o) := fun b u e => by
  rw [upd_ne (ne_of_none e h)]; exact e
theorem none_of_same {B H : Hp} {p : Addr} (s : Same B H) (h : H p = none) : B p = none := Same.free s h

/-- a new object is frozen at once -/
theorem HSim.alloc (S : HSim H0 B0 fx B H) {p : Addr} {o : HO} (hp : H p = none) : HSim H0 B0 fx (upd B p o) (upd H p o) where
  sub := fun b u e => by
    by_cases hb : b = p
    · subst hb; rw [upd_same] at e ⊢; exact e
    · rw [upd_ne hb] at e ⊢; exact S.sub b u e
  old := S.old.trans (same_upd hp)
  b0 := S.b0.trans (same_upd (none_of_same S.sub hp))
  new := fun a u e => by
    by_cases hb : a = p
    · subst hb; exact .inr (none_of_same S.old hp)
    · rw [upd_ne hb] at e; exact S.new a u e
  kept := fun q hq => by
    obtain ⟨h1, h2, h3⟩ := S.kept q hq
    have ne : q.1 ≠ p := ne_of_none h1 hp
    rw [upd_ne ne, upd_ne ne]; exact ⟨h1, h2, h3⟩
  nd := S.nd
theorem Sim.alloc (S : Sim K H0 B0 fx B H σ env) {p : Addr} {o : HO} (hp : H p = none) : Sim K H0 B0 fx (upd B p o) (upd H p o) σ env where
  h := S.h.alloc hp
  len := S.len
  slot := fun i s e => by
    obtain ⟨u, h1, h2⟩ := S.slot i s e
    refine ⟨u, h1, ?_⟩
    cases s with
    | und => trivial
    | val d => obtain ⟨v, hv, r⟩ := h2; exact ⟨v, hv, r.mono (same_upd (none_of_same S.h.sub hp))⟩
    | ob ds =>
      obtain ⟨q, vs, hv, a1, a2, a3, r⟩ := h2
      have ne : q ≠ p := ne_of_none a1 hp
      exact ⟨q, vs, hv, by rw [upd_ne ne]; exact a1, by rw [upd_ne ne]; exact a2, a3, r.mono (same_upd (none_of_same S.h.sub hp))⟩
  inj := S.inj
  fxo := S.fxo
/-- a new object is set aside -/
theorem Sim.fresh (S : Sim K H0 B0 fx B H σ env) {p : Addr} {o : HO} (hp : H p = none) : Sim K H0 B0 ((p, o) :: fx) B (upd H p o) σ env where
  h := {
    sub := S.h.sub.trans (same_upd hp)
    old := S.h.old.trans (same_upd hp)
    b0 := S.h.b0
    new := S.h.new
    kept := fun q hq => by
      rcases List.mem_cons.mp hq with e | hq
      · subst e; exact ⟨upd_same, none_of_same S.h.sub hp, none_of_same S.h.old hp⟩
      · obtain ⟨h1, h2, h3⟩ := S.h.kept q hq
        rw [upd_ne (ne_of_none h1 hp)]; exact ⟨h1, h2, h3⟩
    nd := by
      rw [List.map_cons, List.nodup_cons]
      refine ⟨fun hm => ?_, S.h.nd⟩
      obtain ⟨q, hq, e⟩ := List.mem_map.mp hm
      have := (S.h.kept q hq).1
      rw [e, hp] at this; cases this }
  len := S.len
  slot := fun i s e => by
    obtain ⟨u, h1, h2⟩ := S.slot i s e
    refine ⟨u, h1, ?_⟩
    cases s with
    | und => trivial
    | val d => exact h2
    | ob ds =>
      obtain ⟨q, vs, hv, a1, a2, a3, r⟩ := h2
      exact ⟨q, vs, hv, by rw [upd_ne (ne_of_none a1 hp)]; exact a1, a2, a3, r⟩
  inj := S.inj
  fxo := fun q hq i xs e z => by
    rcases List.mem_cons.mp hq with e' | hq
    · subst e'
      obtain ⟨p', vs, h1, h2, _⟩ := S.ob e
      rw [h1] at z; cases z
      rw [hp] at h2; cases h2
    · exact S.fxo q hq i xs e z
/-- what is set aside is frozen -/
theorem Sim.freeze {p : Addr} {o : HO} (S : Sim K H0 B0 ((p, o) :: fx) B H σ env) : Sim K H0 B0 fx (upd B p o) H σ env ∧ Same B (upd B p o) := by
  obtain ⟨h1, h2, h3⟩ := S.h.kept (p, o) List.mem_cons_self
  have sB : Same B (upd B p o) := same_upd h2
  have nd := S.h.nd
  rw [List.map_cons, List.nodup_cons] at nd
  have neq : ∀ q ∈ fx, q.1 ≠ p := fun q hq e => nd.1 (List.mem_map.mpr ⟨q, hq, e⟩)
  refine ⟨⟨⟨fun b u e => ?_, S.h.old, S.h.b0.trans sB, fun a u e => ?_, fun q hq => ?_, nd.2⟩, S.len, fun i s e => ?_, S.inj, fun q hq => S.fxo q (List.mem_cons_of_mem _ hq)⟩, sB⟩
  · by_cases hb : b = p
    · subst hb; rw [upd_same] at e; cases e; exact h1
    · rw [upd_ne hb] at e; exact S.h.sub b u e
  · by_cases hb : a = p
    · subst hb; exact .inr h3
    · rw [upd_ne hb] at e; exact S.h.new a u e
  · obtain ⟨a1, a2, a3⟩ := S.h.kept q (List.mem_cons_of_mem _ hq)
    rw [upd_ne (neq q hq)]; exact ⟨a1, a2, a3⟩
  · obtain ⟨u, a1, a2⟩ := S.slot i s e
    refine ⟨u, a1, ?_⟩
    cases s with
    | und => trivial
    | val d => obtain ⟨v, hv, r⟩ := a2; exact ⟨v, hv, r.mono sB⟩
    | ob ds =>
      obtain ⟨q, vs, hv, b1, b2, b3, r⟩ := a2
      have ne : q ≠ p := fun z => by
        subst z; subst hv
        exact S.fxo (q, o) List.mem_cons_self i ds e a1
      exact ⟨q, vs, hv, b1, by rw [upd_ne ne]; exact b2, b3, r.mono sB⟩
/-- what is set aside is forgotten -/
theorem Sim.drop {p : Addr × HO} (S : Sim K H0 B0 (p :: fx) B H σ env) : Sim K H0 B0 fx B H σ env :=
  ⟨⟨S.h.sub, S.h.old, S.h.b0, S.h.new, fun q hq => S.h.kept q (List.mem_cons_of_mem _ hq), by have := S.h.nd; rw [List.map_cons, List.nodup_cons] at this; exact this.2⟩, S.len, S.slot, S.inj, fun q hq => S.fxo q (List.mem_cons_of_mem _ hq)⟩
/-- what is set aside is changed -/
theorem Sim.write {p : Addr} {o u : HO} (S : Sim K H0 B0 ((p, o) :: fx) B H σ env) : Sim K H0 B0 ((p, u) :: fx) B (upd H p u) σ env := by
  obtain ⟨h1, h2, h3⟩ := S.h.kept (p, o) List.mem_cons_self
  have nd := S.h.nd
  rw [List.map_cons, List.nodup_cons] at nd
  refine ⟨⟨fun b v e => ?_, fun b v e => ?_, S.h.b0, S.h.new, fun q hq => ?_, by rw [List.map_cons, List.nodup_cons]; exact nd⟩, S.len, fun i s e => ?_, S.inj, fun q hq => ?_⟩
  · rw [upd_ne (fun z => by subst z; rw [h2] at e; cases e)]; exact S.h.sub b v e
  · rw [upd_ne (fun z => by subst z; rw [h3] at e; cases e)]; exact S.h.old b v e
  · rcases List.mem_cons.mp hq with e | hq
    · subst e; exact ⟨upd_same, h2, h3⟩
    · obtain ⟨a1, a2, a3⟩ := S.h.kept q (List.mem_cons_of_mem _ hq)
      have ne : q.1 ≠ p := fun e => nd.1 (List.mem_map.mpr ⟨q, hq, e⟩)
      rw [upd_ne ne]; exact ⟨a1, a2, a3⟩
  · obtain ⟨w, a1, a2⟩ := S.slot i s e
    refine ⟨w, a1, ?_⟩
    cases s with
    | und => trivial
    | val d => exact a2
    | ob ds =>
      obtain ⟨q, vs, hv, b1, b2, b3, r⟩ := a2
      have ne : q ≠ p := fun z => by
        subst z; subst hv
        exact S.fxo (q, o) List.mem_cons_self i ds e a1
      exact ⟨q, vs, hv, by rw [upd_ne ne]; exact b1, b2, b3, r⟩
  · rcases List.mem_cons.mp hq with e | hq
    · subst e; exact fun i xs e => S.fxo (p, o) List.mem_cons_self i xs e
    · exact S.fxo q (List.mem_cons_of_mem _ hq)

theorem get_set_eq {α : Type} {l : List α} {i : Nat} {x y : α} (h : l[i]? = some y) : (l.set i x)[i]? = some x := by
  have : i < l.length := by
    rcases Nat.lt_or_ge i l.length with h' | h'
    · exact h'
    · rw [List.getElem?_eq_none h'] at h; cases h
  rw [List.getElem?_set_self this]
theorem get_set_ne {α : Type} {l : List α} {i j : Nat} {x : α} (h : j ≠ i) : (l.set i x)[j]? = l[j]? := by
  rw [List.getElem?_set_ne (fun e => h e.symm)]

/-- a slot's list is frozen -/
theorem Sim.frzSlot (S : Sim K H0 B0 fx B H σ env) {i : Nat} {ds : Cn} (e : env[i]? = some (.ob ds)) :
    ∃ p u, σ[i]? = some (some (.ref p)) ∧ Rep K (upd B p u) (.ref p) (cD ds) ∧ Same B (upd B p u) ∧ Sim K H0 B0 fx (upd B p u) H σ (env.set i (.val (cD ds))) := by
  obtain ⟨p, vs, h1, h2, h3, h4, r⟩ := S.ob e
  have sB : Same B (upd B p vs) := same_upd h3
  have rp : Rep K (upd B p vs) (.ref p) (cD ds) := (r.mono sB).rep upd_same
  refine ⟨p, vs, h1, rp, sB, ⟨⟨fun b u q => ?_, S.h.old, S.h.b0.trans sB, fun a u q => ?_, fun q hq => ?_, S.h.nd⟩, by rw [List.length_set]; exact S.len, fun j s q => ?_, fun j k q xs ys ej ek => ?_, fun q hq j xs ej => ?_⟩⟩
  · by_cases hb : b = p
    · subst hb; rw [upd_same] at q; cases q; exact h2
    · rw [upd_ne hb] at q; exact S.h.sub b u q
  · by_cases hb : a = p
    · subst hb; exact .inr h4
    · rw [upd_ne hb] at q; exact S.h.new a u q
  · obtain ⟨a1, a2, a3⟩ := S.h.kept q hq
    have ne : q.1 ≠ p := fun z => by subst z; exact S.fxo q hq i ds e h1
    rw [upd_ne ne]; exact ⟨a1, a2, a3⟩
  · by_cases hj : j = i
    · subst hj
      rw [get_set_eq e] at q; cases q
      exact ⟨_, h1, _, rfl, rp⟩
    · rw [get_set_ne hj] at q
      obtain ⟨u, a1, a2⟩ := S.slot j s q
      refine ⟨u, a1, ?_⟩
      cases s with
      | und => trivial
      | val d => obtain ⟨v, hv, r⟩ := a2; exact ⟨v, hv, r.mono sB⟩
      | ob es =>
        obtain ⟨q', ws, hv, b1, b2, b3, r⟩ := a2
        have ne : q' ≠ p := fun z => by
          subst z; subst hv
          exact hj (S.inj j i q' es ds q e a1 h1)
        exact ⟨q', ws, hv, b1, by rw [upd_ne ne]; exact b2, b3, r.mono sB⟩
  · have hj : j ≠ i := fun z => by subst z; rw [get_set_eq e] at ej; cases ej
    have hk : k ≠ i := fun z => by subst z; rw [get_set_eq e] at ek; cases ek
    rw [get_set_ne hj] at ej
    rw [get_set_ne hk] at ek
    exact S.inj j k q xs ys ej ek
  · have hj : j ≠ i := fun z => by subst z; rw [get_set_eq e] at ej; cases ej
    rw [get_set_ne hj] at ej
    exact S.fxo q hq j xs ej
theorem Sim.frzSlotM (S : Sim K H0 B0 fx B H σ env) {i : Nat} {ds : Cn} (e : env[i]? = some (.ob ds)) :
    ∃ p u, σ[i]? = some (some (.ref p)) ∧ Rep K (upd B p u) (.ref p) (cD ds) ∧ Same B (upd B p u) ∧ Sim K H0 B0 fx (upd B p u) H σ (env.set i (.val (cD ds))) ∧ Mut (some u) := by
  obtain ⟨p, u, h1, h2, h3, h4⟩ := S.frzSlot e
  obtain ⟨p', u', k1, k2, _, _, k5⟩ := S.ob e
  rw [h1] at k1; cases k1
  have z := h4.h.sub p u upd_same
  rw [k2] at z; cases z
  exact ⟨p, u, h1, h2, h3, h4, k5.mut⟩
/-- a slot's list is changed -/
theorem Sim.wrOb (S : Sim K H0 B0 fx B H σ env) {i : Nat} {p : Addr} {ds es : Cn} {ws : HO} (e : env[i]? = some (.ob ds)) (h1 : σ[i]? = some (some (.ref p))) (r : RepC K B p ws es) :
    Sim K H0 B0 fx B (upd H p ws) σ (env.set i (.ob es)) := by
  obtain ⟨p', vs, h1', h2, h3, h4, _⟩ := S.ob e
  rw [h1] at h1'; cases h1'
  refine ⟨⟨fun b u q => ?_, fun b u q => ?_, S.h.b0, S.h.new, fun q hq => ?_, S.h.nd⟩, by rw [List.length_set]; exact S.len, fun j s q => ?_, fun j k q xs ys ej ek => ?_, fun q hq j xs ej => ?_⟩
  · rw [upd_ne (fun z => by subst z; rw [h3] at q; cases q)]; exact S.h.sub b u q
  · rw [upd_ne (fun z => by subst z; rw [h4] at q; cases q)]; exact S.h.old b u q
  · obtain ⟨a1, a2, a3⟩ := S.h.kept q hq
    have ne : q.1 ≠ p := fun z => by subst z; exact S.fxo q hq i ds e h1
    rw [upd_ne ne]; exact ⟨a1, a2, a3⟩
  · by_cases hj : j = i
    · subst hj
      rw [get_set_eq e] at q; cases q
      exact ⟨_, h1, p, ws, rfl, upd_same, h3, h4, r⟩
    · rw [get_set_ne hj] at q
      obtain ⟨u, a1, a2⟩ := S.slot j s q
      refine ⟨u, a1, ?_⟩
      cases s with
      | und => trivial
      | val d => exact a2
      | ob es' =>
        obtain ⟨q', ws', hv, b1, b2, b3, r⟩ := a2
        have ne : q' ≠ p := fun z => by
          subst z; subst hv
          exact hj (S.inj j i q' es' ds q e a1 h1)
        exact ⟨q', ws', hv, by rw [upd_ne ne]; exact b1, b2, b3, r⟩
  · have fj : ∀ {j : Nat} {xs : Cn}, (env.set i (.ob es))[j]? = some (Slot.ob xs) → ∃ ys : Cn, env[j]? = some (Slot.ob ys) := fun {j xs} ej => by
      by_cases hj : j = i
      · subst hj; exact ⟨_, e⟩
      · rw [get_set_ne hj] at ej; exact ⟨_, ej⟩
    obtain ⟨_, ej'⟩ := fj ej
    obtain ⟨_, ek'⟩ := fj ek
    exact S.inj j k q _ _ ej' ek'
  · by_cases hj : j = i
    · subst hj; exact S.fxo q hq j ds e
    · rw [get_set_ne hj] at ej; exact S.fxo q hq j xs ej
theorem Sim.wrSlot (S : Sim K H0 B0 fx B H σ env) {i : Nat} {p : Addr} {ds es : List PyData} {ws : List V} (e : env[i]? = some (.own ds)) (h1 : σ[i]? = some (some (.ref p))) (r : Reps K B ws es) :
    Sim K H0 B0 fx B (upd H p (.lst ws)) σ (env.set i (.own es)) := S.wrOb e h1 (.lst r)
/-- a slot is set to a frozen value -/
theorem Sim.setVal (S : Sim K H0 B0 fx B H σ env) {i : Nat} {v : V} {d : PyData} (r : Rep K B v d) : Sim K H0 B0 fx B H (σ.set i (some v)) (env.set i (.val d)) := by
  refine ⟨S.h, by rw [List.length_set, List.length_set]; exact S.len, fun j s q => ?_, fun j k q xs ys ej ek => ?_, fun q hq j xs ej => ?_⟩
  · by_cases hj : j = i
    · subst hj
      have hl : j < env.length := by
        rcases Nat.lt_or_ge j env.length with h | h
        · exact h
        · rw [List.getElem?_eq_none (by rw [List.length_set]; exact h)] at q; cases q
      rw [List.getElem?_set_self hl] at q; cases q
      exact ⟨_, List.getElem?_set_self (by rw [S.len]; exact hl), v, rfl, r⟩
    · rw [get_set_ne hj] at q
      rw [get_set_ne hj]; exact S.slot j s q
  · have fj : ∀ {j : Nat} {xs : Cn}, (env.set i (.val d))[j]? = some (Slot.ob xs) → j ≠ i := fun {j xs} ej z => by
      subst z
      by_cases hl : j < env.length
      · rw [List.getElem?_set_self hl] at ej; cases ej
      · rw [List.getElem?_eq_none (by rw [List.length_set]; omega)] at ej; cases ej
    have hj := fj ej
    have hk := fj ek
    rw [get_set_ne hj] at ej
    rw [get_set_ne hk] at ek
    rw [get_set_ne hj, get_set_ne hk]
    exact S.inj j k q xs ys ej ek
  · have hj : j ≠ i := fun z => by
      subst z
      by_cases hl : j < env.length
      · rw [List.getElem?_set_self hl] at ej; cases ej
      · rw [List.getElem?_eq_none (by rw [List.length_set]; omega)] at ej; cases ej
    rw [get_set_ne hj] at ej
    rw [get_set_ne hj]; exact S.fxo q hq j xs ej
/-- a slot takes what is set aside -/
theorem Sim.setOb {p : Addr} {vs : HO} {ds : Cn} (S : Sim K H0 B0 ((p, vs) :: fx) B H σ env) {i : Nat} (r : RepC K B p vs ds) : Sim K H0 B0 fx B H (σ.set i (some (.ref p))) (env.set i (.ob ds)) := by
  obtain ⟨h1, h2, h3⟩ := S.h.kept (p, vs) List.mem_cons_self
  have nd := S.h.nd
  rw [List.map_cons, List.nodup_cons] at nd
  refine ⟨⟨S.h.sub, S.h.old, S.h.b0, S.h.new, fun q hq => S.h.kept q (List.mem_cons_of_mem _ hq), nd.2⟩, by rw [List.length_set, List.length_set]; exact S.len, fun j s q => ?_, fun j k q xs ys ej ek ej' ek' => ?_, fun q hq j xs ej => ?_⟩
  · by_cases hj : j = i
    · subst hj
      have hl : j < env.length := by
        rcases Nat.lt_or_ge j env.length with h | h
        · exact h
        · rw [List.getElem?_eq_none (by rw [List.length_set]; exact h)] at q; cases q
      rw [List.getElem?_set_self hl] at q; cases q
      exact ⟨_, List.getElem?_set_self (by rw [S.len]; exact hl), p, vs, rfl, h1, h2, h3, r⟩
    · rw [get_set_ne hj] at q
      rw [get_set_ne hj]; exact S.slot j s q
  · have key : ∀ {j k : Nat} {xs ys : Cn} {q : Addr}, j = i → k ≠ i → (env.set i (.ob ds))[k]? = some (.ob ys) → (σ.set i (some (.ref p)))[j]? = some (some (V.ref q)) → (σ.set i (some (.ref p)))[k]? = some (some (V.ref q)) → False := fun {j k xs ys q} hj hk ek ej' ek' => by
      subst hj
      rw [get_set_ne hk] at ek ek'
      have hl : j < σ.length := by
        rcases Nat.lt_or_ge j σ.length with h | h
        · exact h
        · rw [List.getElem?_eq_none (by rw [List.length_set]; exact h)] at ej'; cases ej'
      rw [List.getElem?_set_self hl] at ej'; cases ej'
      exact S.fxo (p, vs) List.mem_cons_self k ys ek ek'
    by_cases hj : j = i <;> by_cases hk : k = i
    · rw [hj, hk]
    · exact (key (xs := xs) hj hk ek ej' ek').elim
    · exact (key (xs := ys) hk hj ej ek' ej').elim
    · rw [get_set_ne hj] at ej ej'
      rw [get_set_ne hk] at ek ek'
      exact S.inj j k q xs ys ej ek ej' ek'
  · by_cases hj : j = i
    · subst hj
      intro z
      have hl : j < σ.length := by
        rcases Nat.lt_or_ge j σ.length with h | h
        · exact h
        · rw [List.getElem?_eq_none (by rw [List.length_set]; exact h)] at z; cases z
      rw [List.getElem?_set_self hl] at z; cases z
      exact nd.1 (List.mem_map.mpr ⟨q, hq, rfl⟩)
    · rw [get_set_ne hj] at ej
      rw [get_set_ne hj]; exact S.fxo q (List.mem_cons_of_mem _ hq) j xs ej
theorem Sim.setOwn {p : Addr} {vs : List V} {ds : List PyData} (S : Sim K H0 B0 ((p, .lst vs) :: fx) B H σ env) {i : Nat} (r : Reps K B vs ds) : Sim K H0 B0 fx B H (σ.set i (some (.ref p))) (env.set i (.own ds)) := S.setOb (.lst r)
end
end PyI

namespace PyI
open PySem PySem.Spec L2

/-! ## results and wishes -/
inductive Rs (α : Type) where
  | ok (a : α) (e : Ev)
  | exc (c : Str) (e : Ev)
abbrev M (α : Type) := Ev → Option (Rs α)
def bnd {α β : Type} (x : Option (Rs α)) (k : α → Ev → Option (Rs β)) : Option (Rs β) :=
  match x with
  | some (.ok a e) => k a e
  | some (.exc c e) => some (.exc c e)
  | none => none
@[simp] theorem bnd_ok {α β : Type} (a : α) (e : Ev) (k : α → Ev → Option (Rs β)) : bnd (some (.ok a e)) k = k a e := id rfl
@[simp] theorem bnd_exc {α β : Type} (c : Str) (e : Ev) (k : α → Ev → Option (Rs β)) : bnd (some (.exc c e)) k = some (.exc c e) := id rfl
@[simp] theorem bnd_none {α β : Type} (k : α → Ev → Option (Rs β)) : bnd none k = none := id rfl
theorem bnd_some {α β : Type} {x : Option (Rs α)} {k : α → Ev → Option (Rs β)} {r : Rs β} (h : bnd x k = some r) : (∃ a e, x = some (.ok a e) ∧ k a e = some r) ∨ (∃ c e, x = some (.exc c e) ∧ r = .exc c e) := by
  cases x with
  | none => cases h
  | some y =>
    cases y with
    | ok a e => exact .inl ⟨a, e, rfl, h⟩
    | exc c e => exact .inr ⟨c, e, rfl, (Option.some.inj h).symm⟩

/-- an operand: a frozen value, or a slot that is read when the operation runs -/
inductive Opd where
  | val (d : PyData)
  | slot (i : Nat)
def cont : Slot → Option PyData
  | .und => none
  | .val d => some d
  | .ob c => some (cD c)
def getO (env : Ev) : Opd → Option PyData
  | .val d => some d
  | .slot i => match env[i]? with
    | some s => cont s
    | none => none
def getOs (env : Ev) : List Opd → Option (List PyData)
  | [] => some []
  | o :: os => match getO env o, getOs env os with
    | some d, some ds => some (d :: ds)
    | _, _ => none

/-- a value as an operation sees it: frozen, or a slot's own list -/
def RepO (K : PySem.W.Frag) (B H : Hp) (v : V) (d : PyData) : Prop := Rep K B v d ∨ ∃ p u c, v = .ref p ∧ d = cD c ∧ H p = some u ∧ RepC K B p u c
def OpdOk (K : PySem.W.Frag) (B : Hp) (σ : St) (v : V) : Opd → Prop
  | .val d => Rep K B v d
  | .slot i => σ[i]? = some (some v)
theorem OpdOk.mono {K : PySem.W.Frag} {B B' : Hp} {σ : St} {v : V} {o : Opd} (s : Same B B') (h : OpdOk K B σ v o) : OpdOk K B' σ v o := by
  cases o with
  | val d => exact Rep.mono s h
  | slot i => exact h

section
variable {K : PySem.W.Frag} {H0 B0 B H : Hp} {fx : List (Addr × HO)} {σ : St} {env : Ev} {v : V}
theorem RepO.rep {d : PyData} (s : Same B H) (h : RepO K B H v d) : Rep K H v d := by
  rcases h with h | ⟨p, vs, ds, rfl, rfl, e, r⟩
  · exact h.mono s
  · exact (r.mono s).rep e
theorem OpdOk.get {o : Opd} {d : PyData} (S : Sim K H0 B0 fx B H σ env) (h : OpdOk K B σ v o) (g : getO env o = some d) : RepO K B H v d := by
  cases o with
  | val u => cases g; exact .inl h
  | slot i =>
    have h' : σ[i]? = some (some v) := h
    have g' : (match env[i]? with | some s => cont s | none => none) = some d := g
    cases q : env[i]? with
    | none => rw [q] at g'; cases g'
    | some s =>
      rw [q] at g'
      cases s with
      | und => cases g'
      | val u =>
        cases g'
        obtain ⟨w, h1, r⟩ := S.val q
        rw [h1] at h'; cases h'
        exact .inl r
      | ob us =>
        cases g'
        obtain ⟨p, vs, h1, h2, _, _, r⟩ := S.ob q
        rw [h1] at h'; cases h'
        exact .inr ⟨p, vs, us, rfl, rfl, h2, r⟩
theorem RepO.int {i : Int} (h : RepO K B H v (.int i)) : v = .int i := by
  rcases h with h | ⟨_, _, c, _, e, _⟩
  · cases h; rfl
  · cases c <;> cases e
theorem RepO.bl {b : Bool} (h : RepO K B H v (.bool b)) : v = .bl b := by
  rcases h with h | ⟨_, _, c, _, e, _⟩
  · cases h; rfl
  · cases c <;> cases e
theorem RepO.str {x : Str} (h : RepO K B H v (.str x)) : v = .str x := by
  rcases h with h | ⟨_, _, c, _, e, _⟩
  · cases h; rfl
  · cases c <;> cases e
theorem RepO.non (h : RepO K B H v .none) : v = .non := by
  rcases h with h | ⟨_, _, c, _, e, _⟩
  · cases h; rfl
  · cases c <;> cases e
theorem RepO.tupX {ds : List PyData} (h : RepO K B H v (.tuple ds)) : ∃ a xs, v = .ref a ∧ XT K B a xs ∧ Reps K B xs ds := by
  rcases h with h | ⟨_, _, c, _, e, _⟩
  · cases h with | tup a r => exact ⟨_, _, rfl, a, r⟩
  · cases c <;> cases e
theorem RepO.tup {ds : List PyData} (h : RepO K B H v (.tuple ds)) : ∃ a xs, v = .ref a ∧ SqT K B a xs ∧ Reps K B xs ds := by
  obtain ⟨a, xs, e, x, r⟩ := h.tupX
  exact ⟨a, xs, e, x.sq, r⟩
theorem RepO.lst {ds : List PyData} (s : Same B H) (h : RepO K B H v (.list ds)) : ∃ a xs, v = .ref a ∧ SqL K H a xs ∧ Reps K B xs ds := by
  rcases h with h | ⟨p, u, c, rfl, e, a, r⟩
  · cases h with | lst a r => exact ⟨_, _, rfl, s.seq a, r⟩
  · cases c <;> cases e
    obtain ⟨vs, rfl, r2⟩ := r.lstV
    exact ⟨p, vs, rfl, SqL.of a, r2⟩
theorem RepO.dicV {ps : List (PyData × PyData)} (s : Same B H) (h : RepO K B H v (.dict ps)) : ∃ a, v = .ref a ∧
    ((∃ kvs, H a = some (.dK kvs) ∧ ps.map (fun p => dkOf p.1) = kvs.map (fun p => some (.k p.1)) ∧ Reps K B (kvs.map (·.2)) (ps.map (·.2))) ∨
     ∃ xs, xs ≠ [] ∧ H a = some (.ext (DNok a xs)) ∧ ps.map (fun p => dkOf p.1) = xs.map (fun x => some (.n x.1)) ∧ Reps K B (xs.map fun x => V.ref x.2.1) (ps.map (·.1)) ∧ Reps K B (xs.map (·.2.2)) (ps.map (·.2))) := by
  rcases h with h | ⟨p, u, c, rfl, e, a, r⟩
  · cases h with
    | dK e k r => exact ⟨_, rfl, .inl ⟨_, s _ _ e, k, r⟩⟩
    | dN n e k q r => exact ⟨_, rfl, .inr ⟨_, n, s _ _ e, k, q, r⟩⟩
  · cases c with
    | lst ds => cases e
    | dic ps' =>
      cases e
      cases r with
      | dK k r => exact ⟨_, rfl, .inl ⟨_, a, k, r⟩⟩
      | dN n k q r => exact ⟨_, rfl, .inr ⟨_, n, a, k, q, r⟩⟩
/-- a value that needs no heap -/
theorem RepO.flat {d : PyData} (h : RepO K B H v d) (f : flat d = true) : Rep K B v d := by
  rcases h with h | ⟨_, _, c, _, e, _⟩
  · exact h
  · subst e; cases c <;> cases f
end

/-- what an operation makes -/
inductive Or where
  | old (d : PyData)
  | newT (ds : List PyData)
  | newL (ds : List PyData)
def orR (env : Ev) : Or → Rs (PyData × Bool)
  | .old d => .ok (d, false) env
  | .newT ds => .ok (.tuple ds, false) env
  | .newL ds => .ok (.list ds, true) env
def PostOr (K : PySem.W.Frag) (B H : Hp) (Q : VK) : Or → Prop
  | .old d => ∀ v, Rep K B v d → Q v H
  | .newT ds => (∀ v, Rep K B v (.tuple ds) → Q v H) ∧ ∀ p vs o, H p = none → o.dict = none → Reps K B vs ds → Q (.ref p) (upd H p (.frz o (.tup vs)))
  | .newL ds => ∀ p vs, H p = none → Reps K B vs ds → Q (.ref p) (upd H p (.lst vs))

/-- what is wanted behind an expression -/
def PostE (X : Cx) (W : WX) (H0 B0 : Hp) (fx : List (Addr × HO)) (B : Hp) (σ : St) (Q : VK) : Rs (PyData × Bool) → Prop
  | .ok (d, false) e => ∀ v H' B', Same B B' → Sim X.K H0 B0 fx B' H' σ e → Rep X.K B' v d → Q v H'
  | .ok (d, true) e => ∀ p u c H' B', d = cD c → Same B B' → Sim X.K H0 B0 ((p, u) :: fx) B' H' σ e → RepC X.K B' p u c → Q (.ref p) H'
  | .exc c e => ∀ H' B' a, Same B B' → Sim X.K H0 B0 fx B' H' σ e → X.mg c = some (.ref a) → W (.ref a) none σ H'
def PostD (X : Cx) (W : WX) (H0 B0 : Hp) (fx : List (Addr × HO)) (B : Hp) (σ : St) (Q : VK) : Rs PyData → Prop
  | .ok d e => ∀ v H' B', Same B B' → Sim X.K H0 B0 fx B' H' σ e → Rep X.K B' v d → Q v H'
  | .exc c e => ∀ H' B' a, Same B B' → Sim X.K H0 B0 fx B' H' σ e → X.mg c = some (.ref a) → W (.ref a) none σ H'
def PostO (X : Cx) (W : WX) (H0 B0 : Hp) (fx : List (Addr × HO)) (B : Hp) (σ : St) (Q : VK) : Rs Opd → Prop
  | .ok o e => ∀ v H' B', Same B B' → Sim X.K H0 B0 fx B' H' σ e → OpdOk X.K B' σ v o → Q v H'
  | .exc c e => ∀ H' B' a, Same B B' → Sim X.K H0 B0 fx B' H' σ e → X.mg c = some (.ref a) → W (.ref a) none σ H'
def PostT (X : Cx) (W : WX) (H0 B0 : Hp) (fx : List (Addr × HO)) (B : Hp) (σ : St) (Q : Bool → Hp → Prop) : Rs Bool → Prop
  | .ok b e => ∀ H' B', Same B B' → Sim X.K H0 B0 fx B' H' σ e → Q b H'
  | .exc c e => ∀ H' B' a, Same B B' → Sim X.K H0 B0 fx B' H' σ e → X.mg c = some (.ref a) → W (.ref a) none σ H'
/-- operands in a row -/
inductive OpdsOk (K : PySem.W.Frag) (B : Hp) (σ : St) : List V → List Opd → Prop
  | nil : OpdsOk K B σ [] []
  | cons {v vs o os} : OpdOk K B σ v o → OpdsOk K B σ vs os → OpdsOk K B σ (v :: vs) (o :: os)
theorem OpdsOk.mono {K : PySem.W.Frag} {B B' : Hp} {σ : St} (s : Same B B') : ∀ {vs : List V} {os : List Opd}, OpdsOk K B σ vs os → OpdsOk K B' σ vs os
  | _, _, .nil => .nil
  | _, _, .cons h t => .cons (h.mono s) (t.mono s)
def PostA (X : Cx) (W : WX) (H0 B0 : Hp) (fx : List (Addr × HO)) (B : Hp) (σ : St) (Q : List V → Hp → Prop) : Rs (List Opd) → Prop
  | .ok os e => ∀ vs H' B', Same B B' → Sim X.K H0 B0 fx B' H' σ e → OpdsOk X.K B' σ vs os → Q vs H'
  | .exc c e => ∀ H' B' a, Same B B' → Sim X.K H0 B0 fx B' H' σ e → X.mg c = some (.ref a) → W (.ref a) none σ H'
/-- frozen values in a row -/
def PostV (X : Cx) (W : WX) (H0 B0 : Hp) (fx : List (Addr × HO)) (B : Hp) (σ : St) (Q : List V → Hp → Prop) : Rs (List PyData) → Prop
  | .ok ds e => ∀ vs H' B', Same B B' → Sim X.K H0 B0 fx B' H' σ e → Reps X.K B' vs ds → Q vs H'
  | .exc c e => ∀ H' B' a, Same B B' → Sim X.K H0 B0 fx B' H' σ e → X.mg c = some (.ref a) → W (.ref a) none σ H'

/-- the readings -/
def tE (X : Cx) (W : WX) (f : M (PyData × Bool)) : TE := fun σ H Q => ∃ H0 B0 fx B env r, Sim X.K H0 B0 fx B H σ env ∧ f env = some r ∧ PostE X W H0 B0 fx B σ Q r
def tD (X : Cx) (W : WX) (f : M PyData) : TE := fun σ H Q => ∃ H0 B0 fx B env r, Sim X.K H0 B0 fx B H σ env ∧ f env = some r ∧ PostD X W H0 B0 fx B σ Q r
def tO (X : Cx) (W : WX) (f : M Opd) : TE := fun σ H Q => ∃ H0 B0 fx B env r, Sim X.K H0 B0 fx B H σ env ∧ f env = some r ∧ PostO X W H0 B0 fx B σ Q r
def tT (X : Cx) (W : WX) (f : M Bool) : TT := fun σ H Q => ∃ H0 B0 fx B env r, Sim X.K H0 B0 fx B H σ env ∧ f env = some r ∧ PostT X W H0 B0 fx B σ Q r
def tA (X : Cx) (W : WX) (f : M (List Opd)) : TA := fun σ H Q => ∃ H0 B0 fx B env r, Sim X.K H0 B0 fx B H σ env ∧ f env = some r ∧ PostA X W H0 B0 fx B σ Q r
def tV (X : Cx) (W : WX) (f : M (List PyData)) : TA := fun σ H Q => ∃ H0 B0 fx B env r, Sim X.K H0 B0 fx B H σ env ∧ f env = some r ∧ PostV X W H0 B0 fx B σ Q r

theorem _root_.L2.PE.imp {X : Cx} {e : Expr} {t t' : TE} (h : PE X e t) (i : ∀ σ H Q, t' σ H Q → t σ H Q) : PE X e t' := ⟨fun pins s σ H Q I q => h.run pins s σ H Q I (i σ H Q q)⟩
theorem _root_.L2.PT.imp {X : Cx} {e : Expr} {t t' : TT} (h : PT X e t) (i : ∀ σ H Q, t' σ H Q → t σ H Q) : PT X e t' := ⟨fun pins s σ H Q I q => h.run pins s σ H Q I (i σ H Q q)⟩
theorem _root_.L2.PW.imp {X : Cx} {e : Expr} {t t' : TT} (h : PW X e t) (i : ∀ σ H Q, t' σ H Q → t σ H Q) : PW X e t' := ⟨fun wh pins s σ H Q I q => h.run wh pins s σ H Q I (i σ H Q q)⟩
theorem _root_.L2.PA.imp {X : Cx} {e : List Expr} {t t' : TA} (h : PA X e t) (i : ∀ σ H Q, t' σ H Q → t σ H Q) : PA X e t' := ⟨fun pos pins s σ H Q I q => h.run pos pins s σ H Q I (i σ H Q q)⟩
theorem _root_.L2.PS.imp {X : Cx} {e : Stmt} {t t' : TS} (h : PS X e t) (i : ∀ D σ H, t' D σ H → t D σ H) : PS X e t' := ⟨fun pins s σ H D I q => h.run pins s σ H D I (i D σ H q)⟩
theorem _root_.L2.PSs.imp {X : Cx} {e : List Stmt} {t t' : TS} (h : PSs X e t) (i : ∀ D σ H, t' D σ H → t D σ H) : PSs X e t' := ⟨fun pins s σ H D I q => h.run pins s σ H D I (i D σ H q)⟩

/-! ## freezing -/
def fzR (a : PyData × Bool) (e : Ev) : Option (Rs PyData) :=
  match a with
  | (d, false) => some (.ok d e)
  | (.list ds, true) => some (.ok (.list ds) e)
  | (.dict ds, true) => some (.ok (.dict ds) e)
  | _ => none
def fz (f : M (PyData × Bool)) : M PyData := fun env => bnd (f env) fzR
def op1 (f : M PyData) : M Opd := fun env => bnd (f env) fun a e => some (.ok (.val a) e)
section
variable {X : Cx} {W : WX} {e : Expr}
theorem fz_ok {f : M (PyData × Bool)} (h : PE X e (tE X W f)) : PE X e (tD X W (fz f)) := h.imp fun σ H Q ⟨H0, B0, fx, B, env, r, S, hr, post⟩ => by
  unfold fz at hr
  rcases bnd_some hr with ⟨⟨d, b⟩, e1, h1, h2⟩ | ⟨c, e1, h1, rfl⟩
  · refine ⟨H0, B0, fx, B, env, _, S, h1, ?_⟩
    cases b with
    | false => cases h2; exact fun v H' B' s S' r => post v H' B' s S' r
    | true =>
      intro p u c H' B' e s S' r
      subst e
      obtain ⟨S2, sB⟩ := S'.freeze
      have r2 := (r.mono sB).rep upd_same
      cases c <;> cases h2 <;> exact post _ H' _ (s.trans sB) S2 r2
  · exact ⟨H0, B0, fx, B, env, _, S, h1, post⟩
theorem op1_ok {f : M PyData} (h : PE X e (tD X W f)) : PE X e (tO X W (op1 f)) := h.imp fun σ H Q ⟨H0, B0, fx, B, env, r, S, hr, post⟩ => by
  unfold op1 at hr
  rcases bnd_some hr with ⟨d, e1, h1, h2⟩ | ⟨c, e1, h1, rfl⟩
  · cases h2
    exact ⟨H0, B0, fx, B, env, _, S, h1, fun v H' B' s S' r => post v H' B' s S' r⟩
  · exact ⟨H0, B0, fx, B, env, _, S, h1, post⟩
end

/-! ## operations by values -/
abbrev B2 := PyData → PyData → Option Or
def rD (K : PySem.W.Frag) (op : B2) : R2 := fun x y H Q => ∃ B u v o, Same B H ∧ RepO K B H x u ∧ RepO K B H y v ∧ op u v = some o ∧ PostOr K B H Q o
theorem _root_.L2.OpR.imp {X : Cx} {f : Value → Value → Sem Value} {r r' : R2} (h : OpR X f r) (i : ∀ x y H Q, r' x y H Q → r x y H Q) : OpR X f r' := fun pins s σ H x y v u Q I rx ry q => h pins s σ H x y v u Q I rx ry (i _ _ _ _ q)

def fBin (op : B2) (fa fb : M Opd) : M (PyData × Bool) := fun env => bnd (fa env) fun x e1 => bnd (fb e1) fun y e2 =>
  match getO e2 x, getO e2 y with
  | some u, some v => (op u v).map (orR e2)
  | _, _ => none

section
variable {X : Cx} {W : WX} {H0 B0 : Hp} {fx : List (Addr × HO)} {σ : St}
/-- an operation's making, wanted -/
theorem postOr {B B1 H : Hp} {env : Ev} {Q : VK} {o : Or} (s : Same B B1) (S : Sim X.K H0 B0 fx B1 H σ env) (post : PostE X W H0 B0 fx B σ Q (orR env o)) : PostOr X.K B1 H Q o := by
  cases o with
  | old d => exact fun v r => post v H B1 s S r
  | newT ds =>
    refine ⟨fun v r => post v H B1 s S r, fun p vs o hp ho r => ?_⟩
    have sB : Same B1 (upd B1 p (.frz o (.tup vs))) := same_upd (none_of_same S.h.sub hp)
    exact post _ _ _ (s.trans sB) (S.alloc hp) (.tup (XT.of upd_same ho) (r.mono sB))
  | newL ds => exact fun p vs hp r => post p _ (.lst ds) _ B1 rfl s (S.fresh hp) (.lst r)
theorem bin_ok {op : B2} {fa fb : M Opd} {r : R2} (hr : ∀ x y H Q, rD X.K op x y H Q → r x y H Q) : ∀ σ H Q, tE X W (fBin op fa fb) σ H Q → tOp r (tO X W fa) (tO X W fb) σ H Q := by
  intro σ H Q ⟨H0, B0, fx, B, env, rr, S, h, post⟩
  unfold fBin at h
  rcases bnd_some h with ⟨x, e1, h1, h2⟩ | ⟨c, e1, h1, rfl⟩
  · refine ⟨H0, B0, fx, B, env, _, S, h1, fun vx H1 B1 s1 S1 o1 => ?_⟩
    rcases bnd_some h2 with ⟨y, e2, h3, h4⟩ | ⟨c, e2, h3, rfl⟩
    · refine ⟨H0, B0, fx, B1, e1, _, S1, h3, fun vy H2 B2 s2 S2 o2 => hr _ _ _ _ ?_⟩
      split at h4
      · rename_i u v hu hv
        cases ho : op u v with
        | none => rw [ho] at h4; cases h4
        | some o =>
          rw [ho] at h4; cases h4
          exact ⟨B2, u, v, o, S2.h.sub, (o1.mono s2).get S2 hu, o2.get S2 hv, ho, postOr (s1.trans s2) S2 post⟩
      · cases h4
    · exact ⟨H0, B0, fx, B1, e1, _, S1, h3, fun H' B' a s2 S2 hm => post H' B' a (s1.trans s2) S2 hm⟩
  · exact ⟨H0, B0, fx, B, env, _, S, h1, fun H' B' a s2 S2 hm => post H' B' a s2 S2 hm⟩
end
end PyI

namespace PyI
open PySem PySem.Spec L2 PyProof.Rows

/-! ## binary operators -/
def addD : B2
  | .int i, .int j => some (.old (.int (i + j)))
  | .str x, .str y => if x.length + y.length ≤ sizeLine then some (.old (.str (x ++ y))) else none
  | .tuple xs, .tuple ys => if xs.length + ys.length ≤ sizeLine then some (.newT (xs ++ ys)) else none
  | .list xs, .list ys => if xs.length + ys.length ≤ sizeLine then some (.newL (xs ++ ys)) else none
  | _, _ => none
def intD (C : Int → Int → Bool) (g : Int → Int → Int) : B2
  | .int i, .int j => if C i j = true then some (.old (.int (g i j))) else none
  | _, _ => none
def small64 (i : Int) : Bool := decide (-(2 ^ 64) < i ∧ i < 2 ^ 64)
def mulC (i j : Int) : Bool := small64 j || small64 i
def divC (_ j : Int) : Bool := decide (0 < j ∧ j < 1073741824)
def modC (_ j : Int) : Bool := decide (0 < j)
def powC (i j : Int) : Bool := decide (0 ≤ j ∧ j ≤ 1000000 ∧ i.natAbs < 2 ^ 64)
def shrC (_ j : Int) : Bool := decide (0 ≤ j)
def anyC (_ _ : Int) : Bool := true
/-- ints, and a tuple with a number from 2 on -/
def mulD : B2
  | .int i, .int j => if mulC i j = true then some (.old (.int (i * j))) else none
  | .tuple xs, .int k => if 2 ≤ k ∧ k ≤ 1000 ∧ xs.length ≤ 1000 then some (.newT (List.replicate k.toNat xs).flatten) else none
  | .list xs, .int k => if 0 ≤ k ∧ k ≤ 1000 ∧ xs.length ≤ 1000 then some (.newL (List.replicate k.toNat xs).flatten) else none
  | _, _ => none
def binD : Operator → B2
  | .Add => addD
  | .Sub => intD anyC (· - ·)
  | .Mult => mulD
  | .FloorDiv => intD divC (· / ·)
  | .Mod => intD modC (· % ·)
  | .Pow => intD powC fun i j => i ^ j.toNat
  | .LShift => intD powC fun i j => i * 2 ^ j.toNat
  | .RShift => intD shrC fun i j => i / 2 ^ j.toNat
  | .BitAnd => intD anyC Builtin.bitAnd
  | .BitOr => intD anyC Builtin.bitOr
  | .BitXor => intD anyC Builtin.bitXor
  | _ => fun _ _ => none

theorem intD_some {C : Int → Int → Bool} {g : Int → Int → Int} {u v : PyData} {o : Or} (h : intD C g u v = some o) : ∃ i j, u = .int i ∧ v = .int j ∧ C i j = true ∧ o = .old (.int (g i j)) := by
  unfold intD at h
  split at h
  · split at h
    · cases h; exact ⟨_, _, rfl, rfl, by assumption, rfl⟩
    · cases h
  · cases h
section
variable {X : Cx}
theorem opInt {f : Value → Value → Sem Value} {C : Int → Int → Prop} {c : Int → Int → Bool} {g : Int → Int → Int} (h : OpR X f (rI C fun i j => .int (g i j))) (hc : ∀ i j, c i j = true → C i j) : OpR X f (rD X.K (intD c g)) :=
  h.imp fun x y H Q ⟨B, u, v, o, s, hu, hv, ho, post⟩ => by
    obtain ⟨i, j, rfl, rfl, hC, rfl⟩ := intD_some ho
    exact ⟨i, j, hu.int, hv.int, hc i j hC, post _ (.int _)⟩
theorem opInt0 {f : Value → Value → Sem Value} {g : Int → Int → Int} (h : OpR X f (rI0 fun i j => .int (g i j))) : OpR X f (rD X.K (intD anyC g)) :=
  h.imp fun x y H Q ⟨B, u, v, o, s, hu, hv, ho, post⟩ => by
    obtain ⟨i, j, rfl, rfl, hC, rfl⟩ := intD_some ho
    exact ⟨i, j, hu.int, hv.int, post _ (.int _)⟩
/-- two lists joined -/
def rCatL (K : PySem.W.Frag) : R2 := fun x y H Q => ∃ l b xs zs, x = .ref l ∧ y = .ref b ∧ SqL K H l xs ∧ SqL K H b zs ∧ xs.length + zs.length ≤ sizeLine ∧ ∀ p, H p = none → Q (.ref p) (upd H p (.lst (xs ++ zs)))
theorem op_catL : OpR X (binaryOp .Add) (rCatL X.K) := by
  intro pins s σ H x y v u Q I rx ry h
  obtain ⟨l, b, xs, zs, rfl, rfl, hH, hB, hz, q⟩ := h
  cases rx
  cases ry
  obtain ⟨its, r, p1, z1⟩ := I.list hH
  obtain ⟨its2, r2, p2, z2⟩ := I.list hB
  obtain ⟨⟨cls, dd, data, sl⟩, ho, hc, n, hd⟩ := p1.isList
  obtain ⟨⟨cls2, dd2, data2, sl2⟩, ho2, hc2, n2, hd2⟩ := p2.isList
  simp only at hc hd hc2 hd2
  subst hc hd hc2 hd2
  have e : its.toArray ++ its2.toArray = (its ++ its2).toArray := by simp
  have l1 := r.length
  have l2 := r2.length
  refine concat_meets ⟨_, ho, rfl⟩ ⟨_, ho2, rfl⟩ noFill_list_add seq_list_add PySem.F.slot_list_add PySem.F.entry_list_add (PySem.F.args_list_add_2 _ _) (list_addW l b its.toArray its2.toArray n n2 dd dd2 sl sl2 (by simp; omega)) ⟨ho, ho2, ?_⟩
  rw [e]
  exact ⟨.ref _, _, I.lnew (t' := s.toks) (r.append r2) (by rw [List.length_append]; omega), rfl, q _ I.fresh⟩
/-- t + u, the new tuple known -/
def rCatX (K : PySem.W.Frag) : R2 := fun x y H Q => ∃ a b xs ys, x = .ref a ∧ y = .ref b ∧ SqT K H a xs ∧ SqT K H b ys ∧ xs.length + ys.length ≤ sizeLine ∧
  (xs = [] → Q (.ref b) H) ∧ (xs ≠ [] → ys = [] → Q (.ref a) H) ∧ (xs ≠ [] → ys ≠ [] → ∀ p o, H p = none → o.dict = none → Q (.ref p) (upd H p (.frz o (.tup (xs ++ ys)))))
theorem op_catX : OpR X (binaryOp .Add) (rCatX X.K) := by
  intro pins s σ H x y v u Q I rx ry h
  obtain ⟨a, b, xs, ys, rfl, rfl, ha, hb, hz, q0, q1, q2⟩ := h
  cases rx
  cases ry
  obtain ⟨its, r1, p1, _⟩ := I.tuple ha
  obtain ⟨its2, r2, p2, _⟩ := I.tuple hb
  by_cases hx : xs = []
  · subst hx
    cases r1
    exact cat_tup0 p1 p2 ⟨.ref b, H, I, rfl, q0 rfl⟩
  · refine HT.cat_tup p1 p2 (fun z => hx (r1.nil_iff.mp z)) (fun z => ⟨.ref a, H, I, rfl, q1 hx (r2.nil_iff.mp z)⟩) (fun z => ?_) (by rw [← r1.length, ← r2.length]; exact hz)
    refine ⟨.ref s.heap.objs.size, _, I.laid (t' := s.toks) (o := .frz (tobj (its ++ its2).toArray 0) (.tup (xs ++ ys))) (fun b ob q => Heap.get?_push_of_some _ q) (Nat.le_refl _) ⟨Heap.get?_push_size s.heap rfl, ?_⟩, rfl, q2 hx (fun w => z (r2.nil_iff.mpr w)) _ _ (I.hok.fresh (Nat.le_refl _)) rfl⟩
    exact ⟨by rw [List.length_append]; exact hz, _, r1.append r2, IsTup.new _ _⟩
theorem opAdd : OpR X (binaryOp .Add) (rD X.K addD) :=
  (op_add.or (op_add_str.or (op_catX.or op_catL))).imp fun x y H Q ⟨B, u, v, o, s, hu, hv, ho, post⟩ => by
    unfold addD at ho
    split at ho
    · cases ho
      exact .inl ⟨_, _, hu.int, hv.int, post _ (.int _)⟩
    · split at ho
      · rename_i hz
        cases ho
        exact .inr (.inl ⟨_, _, hu.str, hv.str, hz, post _ (.str _)⟩)
      · cases ho
    · split at ho
      · rename_i xs ys hz
        cases ho
        obtain ⟨a, as, rfl, ta, ra⟩ := hu.tupX
        obtain ⟨b, bs, rfl, tb, rb⟩ := hv.tupX
        refine .inr (.inr (.inl ⟨a, b, as, bs, rfl, rfl, same_seqT s ta.sq, same_seqT s tb.sq, by rw [ra.length, rb.length]; exact hz, fun e => ?_, fun _ e => ?_, fun _ _ p o hp ho => post.2 p _ o hp ho (ra.append rb)⟩))
        · subst e; cases ra; exact post.1 _ (.tup tb rb)
        · subst e; cases rb
          refine post.1 _ ?_
          rw [List.append_nil]
          exact .tup ta ra
      · cases ho
    · split at ho
      · rename_i xs ys hz
        cases ho
        obtain ⟨a, as, rfl, ta, ra⟩ := hu.lst s
        obtain ⟨b, bs, rfl, tb, rb⟩ := hv.lst s
        exact .inr (.inr (.inr ⟨a, b, as, bs, rfl, rfl, ta, tb, by rw [ra.length, rb.length]; exact hz, fun p hp => post p _ hp (ra.append rb)⟩))
      · cases ho
    · cases ho
theorem small64_ok {i : Int} (h : small64 i = true) : -(2 ^ 64) < i ∧ i < 2 ^ 64 := of_decide_eq_true h
theorem mulC_ok {i j : Int} (h : mulC i j = true) : CMul i j := by
  rcases Bool.or_eq_true_iff.mp h with h | h
  · exact .inr (small64_ok h)
  · exact .inl (small64_ok h)
theorem Reps.rep {K : PySem.W.Frag} {H : Hp} {vs : List V} {ds : List PyData} (h : Reps K H vs ds) : ∀ n : Nat, Reps K H (List.replicate n vs).flatten (List.replicate n ds).flatten
  | 0 => .nil
  | n + 1 => by
    rw [List.replicate_succ, List.replicate_succ, List.flatten_cons, List.flatten_cons]
    exact h.append (Reps.rep h n)
theorem tuple_mul0 (l : Addr) (n : Nat) (dd : Option Addr) (sl : Array (Option Value)) (x : Int) (u : Tok) (c0 : (decide (x < -(2 ^ 63)) || decide (x ≥ 2 ^ 63)) = false) :
    Meets (Builtin.«tuple.__mul__» ⟨[.ref l, .int x u], []⟩) (fun _ R s => s.heap.get? l = some { cls := .type "tuple", dict := dd, data := .seq #[] n, slots := sl } ∧ R (.ok (.ret (Value.ref l))) s) :=
  .of_wp fun prog w A R s h => by
    obtain ⟨hp, g, d, tk, os⟩ := s
    obtain ⟨hl, h⟩ := h
    have f1 := AutoSeq1.idx_int
    wp_walk using wpAny_loadPart' hl
    refine wpAny_ite_false (decide_eq_false (by rw [c0]; exact Bool.false_ne_true)) ?_
    wp_walk using wpAny_loadPart' hl
    exact ⟨_, rfl, h⟩
/-- t * k, the new tuple known -/
def rRepX (K : PySem.W.Frag) : R2 := fun x y H Q => ∃ l k xs, x = .ref l ∧ y = .int k ∧ SqT K H l xs ∧ 2 ≤ k ∧ k ≤ 1000 ∧ xs.length ≤ 1000 ∧ (xs = [] → Q (.ref l) H) ∧ (xs ≠ [] → ∀ p o, H p = none → o.dict = none → Q (.ref p) (upd H p (.frz o (.tup (List.replicate k.toNat xs).flatten))))
theorem op_repX : OpR X (binaryOp .Mult) (rRepX X.K) := by
  rintro pins s σ H _ _ v u Q I rx ry ⟨l, k, xs, rfl, rfl, hT, k2, k3, hl, q0, q⟩
  obtain ⟨t, rfl⟩ := ry
  cases rx
  obtain ⟨its, r, ⟨⟨c, dd, da, sl⟩, ho, hc, n, hd⟩, _⟩ := I.tuple hT
  obtain rfl : c = .type "tuple" := hc
  obtain rfl : da = .seq its.toArray n := hd
  have e : its.toArray.size = xs.length := by rw [List.size_toArray]; exact r.length.symm
  by_cases hne : xs = []
  · subst hne
    cases r
    exact wpAny_binaryOp_repeat_ref (T := "tuple") (U := "int") (by decide) ⟨_, ho, rfl⟩ (fun z => typeIs_int z k t) noFill_tuple_mul F.fills_int_mul F.slot_int_rmul repeat_tuple F.slot_int_index.lookup
      (call_meets F.slot_int_rmul (typeIs_int s k t) F.entry_int_rmul (F.args_int_rmul_2 _ _) (int_rmul_tuple k t l _ n dd sl)
        ⟨ho, rfl, ⟨_, ho, rfl⟩, call_meets F.slot_tuple_mul ⟨_, ho, rfl⟩ F.entry_tuple_mul (F.args_tuple_mul_2 _ _) (tuple_mul0 l n dd sl k t (by simp; omega)) ⟨ho, ⟨.ref l, H, I, rfl, q0 rfl⟩⟩⟩)
  have q := q hne
  have ne : its.toArray.isEmpty = false := by
    rw [← Bool.not_eq_true, Array.isEmpty_iff_size_eq_zero, e]
    exact fun z => hne (List.eq_nil_of_length_eq_zero z)
  have big : ((its.toArray.size : Nat) : Int) * k ≤ 1000 * 1000 := by
    rw [e]
    exact Int.mul_le_mul (by omega) k3 (by omega) (by omega)
  have bigN : k.toNat * xs.length ≤ 1000 * 1000 := Nat.mul_le_mul (by omega) hl
  have fl : (List.replicate k.toNat its).flatten.length ≤ sizeLine := by
    rw [PyProof.Rows.lm_len_rep_flat, ← r.length, sizeLine_eq]; omega
  have W := tuple_mulW l its.toArray n dd sl k t (by simp; omega) (by rw [ne]; simp; omega) (by rw [ne]; simp; omega) (by omega)
    (by unfold Builtin.Tuple.tupleTooMany; rw [sizeLine_eq]; simp only [decide_eq_false_iff_not]; omega) (by rw [size_rep, List.size_toArray]; exact fl)
  rw [size_rep] at W
  refine wpAny_binaryOp_repeat_ref (T := "tuple") (U := "int") (by decide) ⟨_, ho, rfl⟩ (fun z => typeIs_int z k t) noFill_tuple_mul F.fills_int_mul F.slot_int_rmul repeat_tuple F.slot_int_index.lookup
    (call_meets F.slot_int_rmul (typeIs_int s k t) F.entry_int_rmul (F.args_int_rmul_2 _ _) (int_rmul_tuple k t l its.toArray n dd sl)
      ⟨ho, rfl, ⟨_, ho, rfl⟩, call_meets F.slot_tuple_mul ⟨_, ho, rfl⟩ F.entry_tuple_mul (F.args_tuple_mul_2 _ _) W ⟨ho, ?_⟩⟩)
  exact ⟨.ref s.heap.objs.size, _, I.laid (t' := s.toks) (o := .frz (tobj (List.replicate k.toNat its).flatten.toArray 0) (.tup (List.replicate k.toNat xs).flatten)) (fun b ob q => Heap.get?_push_of_some _ q) (Nat.le_refl _)
    ⟨Heap.get?_push_size s.heap rfl, by rw [PyProof.Rows.lm_len_rep_flat, sizeLine_eq]; omega, _, r.rep k.toNat, IsTup.new _ _⟩, rfl, q _ _ (I.hok.fresh (Nat.le_refl _)) rfl⟩
/-- xs * k of a list, own or frozen -/
def rRepL (K : PySem.W.Frag) : R2 := fun x y H Q => ∃ l k xs, x = .ref l ∧ y = .int k ∧ SqL K H l xs ∧ 0 ≤ k ∧ k ≤ 1000 ∧ xs.length ≤ 1000 ∧ ∀ p, H p = none → Q (.ref p) (upd H p (.lst (List.replicate k.toNat xs).flatten))
theorem op_repL : OpR X (binaryOp .Mult) (rRepL X.K) := by
  rintro pins s σ H _ _ v u Q I rx ry ⟨l, k, xs, rfl, rfl, hs, k2, k3, hl, q⟩
  obtain ⟨t, rfl⟩ := ry
  cases rx
  obtain ⟨its, rv, ⟨⟨cls, dd, data, sl⟩, n, ho, hc, hdn, hd⟩, hlen⟩ := I.list hs
  have hc1 : cls = Value.type "list" := hc
  have hd1 : data = Data.seq its.toArray n := hd
  subst hc1 hd1
  have e : its.toArray.size = xs.length := by rw [List.size_toArray]; exact rv.length.symm
  have hsl := sizeLine_eq
  have big : its.toArray.size * k.toNat ≤ 1000 * 1000 := by
    rw [e]
    exact Nat.mul_le_mul hl (by omega)
  have hfit : ¬ (!Builtin.List.listFitsIndex k) = true := by
    rw [fitsIndex_both (by omega) (by omega)]
    exact Bool.false_ne_true
  have hlong : ¬ Builtin.List.listTooLong (its.toArray.size * k.toNat) = true := by
    rw [notLongL (by omega)]
    exact Bool.false_ne_true
  have hcap : ¬ its.toArray.size * k.toNat > (2 ^ 63 - 1) / 8 := by omega
  have hnew : List.foldl (fun x1 x2 => x1 ++ x2) #[] (List.replicate (if its.toArray.isEmpty = true then 0 else k.toNat) its.toArray) = (List.replicate k.toNat its).flatten.toArray := by
    have f0 : ∀ m : Nat, List.foldl (fun x1 x2 => x1 ++ x2) #[] (List.replicate m its.toArray) = (List.replicate m its).flatten.toArray := fun m => by
      have := foldl_rep its m []
      rw [List.nil_append] at this
      exact this
    rw [f0]
    cases its with
    | nil => simp
    | cons a r' => rw [if_neg (by simp)]
  refine wpAny_binaryOp_repeat_ref (T := "list") (U := "int") (by decide) ⟨_, ho, rfl⟩ (fun s' => typeIs_int s' k t) noFill_list_mul F.fills_int_mul F.slot_int_rmul repeat_list F.slot_int_index.lookup
    (call_meets F.slot_int_rmul (typeIs_int s k t) F.entry_int_rmul (F.args_int_rmul_2 _ _) (lm_int_rmul_list_any k t l its.toArray n dd sl)
      ⟨ho, rfl, ⟨_, ho, rfl⟩, call_meets F.slot_list_mul ⟨_, ho, rfl⟩ F.entry_list_mul (F.args_list_mul_2 _ _) (lm_list_mul_any l its.toArray n dd sl k t hfit hcap hlong) ⟨ho, ?_⟩⟩)
  rw [hnew]
  exact ⟨.ref _, _, I.lnew (t' := s.toks) (rv.rep k.toNat) (by rw [PyProof.Rows.lm_len_rep_flat, Nat.mul_comm]; rw [List.size_toArray, ← rv.length] at big; omega), rfl, q _ I.fresh⟩
theorem opMul : OpR X (binaryOp .Mult) (rD X.K mulD) :=
  ((op_mul.or op_repX).or op_repL).imp fun x y H Q ⟨B, u, v, o, s, hu, hv, ho, post⟩ => by
    unfold mulD at ho
    split at ho
    · split at ho
      · rename_i hz
        cases ho
        exact .inl (.inl ⟨_, _, hu.int, hv.int, mulC_ok hz, post _ (.int _)⟩)
      · cases ho
    · split at ho
      · rename_i xs k hz
        cases ho
        obtain ⟨a, as, rfl, ta, ra⟩ := hu.tupX
        refine .inl (.inr ⟨a, k, as, rfl, hv.int, same_seqT s ta.sq, hz.1, hz.2.1, by rw [ra.length]; exact hz.2.2, fun e => ?_, fun _ p o hp ho => post.2 p _ o hp ho (ra.rep _)⟩)
        subst e; cases ra
        refine post.1 _ ?_
        have e : ∀ m : Nat, (List.replicate m ([] : List PyData)).flatten = [] := fun m => by simp
        rw [e]
        exact .tup ta .nil
      · cases ho
    · split at ho
      · rename_i xs k hz
        cases ho
        obtain ⟨a, as, rfl, ta, ra⟩ := hu.lst s
        exact .inr ⟨a, k, as, rfl, hv.int, ta, hz.1, hz.2.1, by rw [ra.length]; exact hz.2.2, fun p hp => post p _ hp (ra.rep _)⟩
      · cases ho
    · cases ho
theorem opBin (op : Operator) : OpR X (binaryOp op) (rD X.K (binD op)) := by
  cases op
  case Add => exact opAdd
  case Sub => exact opInt0 op_sub
  case Mult => exact opMul
  case FloorDiv => exact opInt op_fdiv fun i j h => of_decide_eq_true (p := 0 < j ∧ j < 1073741824) h
  case Mod => exact opInt op_mod fun i j h => of_decide_eq_true h
  case Pow => exact opInt op_pow fun i j h => of_decide_eq_true (p := 0 ≤ j ∧ j ≤ 1000000 ∧ i.natAbs < 2 ^ 64) h
  case LShift => exact opInt op_shl fun i j h => of_decide_eq_true (p := 0 ≤ j ∧ j ≤ 1000000 ∧ i.natAbs < 2 ^ 64) h
  case RShift => exact opInt op_shr fun i j h => of_decide_eq_true h
  case BitAnd => exact opInt0 op_and
  case BitOr => exact opInt0 op_or
  case BitXor => exact opInt0 op_xor
  all_goals exact fun pins s σ H x y v u Q I rx ry ⟨B, a, b, o, _, _, _, ho, _⟩ => (nomatch ho)
/-- a op= b on ints and texts -/
def addA : B2
  | .int i, .int j => some (.old (.int (i + j)))
  | .str x, .str y => if x.length + y.length ≤ sizeLine then some (.old (.str (x ++ y))) else none
  | _, _ => none
def iaugD : Operator → B2
  | .Add => addA
  | .Sub => intD anyC (· - ·)
  | .Mult => intD mulC (· * ·)
  | .FloorDiv => intD divC (· / ·)
  | .Mod => intD modC (· % ·)
  | .LShift => intD powC fun i j => i * 2 ^ j.toNat
  | .RShift => intD shrC fun i j => i / 2 ^ j.toNat
  | .BitAnd => intD anyC Builtin.bitAnd
  | .BitOr => intD anyC Builtin.bitOr
  | .BitXor => intD anyC Builtin.bitXor
  | _ => fun _ _ => none
theorem opAug (op : Operator) : OpR X (inplaceOp op) (rD X.K (iaugD op)) := by
  cases op
  case Add =>
    refine (iop_add.or iop_add_str).imp fun x y H Q ⟨B, u, v, o, s, hu, hv, ho, post⟩ => ?_
    have ho : addA u v = some o := ho
    unfold addA at ho
    split at ho
    · cases ho
      exact .inl ⟨_, _, hu.int, hv.int, post _ (.int _)⟩
    · split at ho
      · rename_i hz
        cases ho
        exact .inr ⟨_, _, hu.str, hv.str, hz, post _ (.str _)⟩
      · cases ho
    · cases ho
  case Sub => exact opInt0 iop_sub
  case Mult => exact opInt iop_mul fun i j h => mulC_ok h
  case FloorDiv => exact opInt iop_fdiv fun i j h => of_decide_eq_true (p := 0 < j ∧ j < 1073741824) h
  case Mod => exact opInt iop_mod fun i j h => of_decide_eq_true h
  case LShift => exact opInt iop_shl fun i j h => of_decide_eq_true (p := 0 ≤ j ∧ j ≤ 1000000 ∧ i.natAbs < 2 ^ 64) h
  case RShift => exact opInt iop_shr fun i j h => of_decide_eq_true h
  case BitAnd => exact opInt0 iop_and
  case BitOr => exact opInt0 iop_or
  case BitXor => exact opInt0 iop_xor
  all_goals exact fun pins s σ H x y v u Q I rx ry ⟨B, a, b, o, _, _, _, ho, _⟩ => (nomatch ho)

/-! ## comparisons -/
/-- scalars whose == is by kind -/
def scalD : PyData → PyData → Bool
  | .none, .none => true | .none, .int _ => true | .int _, .none => true | .none, .bool _ => true | .bool _, .none => true | .none, .str _ => true | .str _, .none => true
  | .int _, .int _ => true | .bool _, .bool _ => true | .str _, .str _ => true
  | .int _, .str _ => true | .str _, .int _ => true | .bool _, .str _ => true | .str _, .bool _ => true
  | _, _ => false
def eqOk (u v : PyData) : Bool := scalD u v || (SeqAt.shaped u && SeqAt.shaped v)
theorem canLay_of {d : PyData} (h : SeqAt.shaped d = true) : d.canLay0 = true := (Bool.and_eq_true_iff.mp h).1
def inOk (u : PyData) (ds : List PyData) : Bool := (flat u && ds.all flat) || (SeqAt.shaped u && PyData.canLayAll0 ds)
/-- tuples of ints -/
def intsOf : List PyData → Option (List Int)
  | [] => some []
  | .int i :: r => (intsOf r).map (i :: ·)
  | _ :: _ => none
def boolO (b : Bool) : Option Or := some (.old (.bool b))
def ltD : B2
  | .int i, .int j => boolO (decide (i < j))
  | .str x, .str y => boolO (decide (x.cps.toList < y.cps.toList))
  | .tuple xs, .tuple ys => match intsOf xs, intsOf ys with
    | some ns, some ms => boolO (HT.lexLt ns ms)
    | _, _ => none
  | _, _ => none
def leD : B2
  | .int i, .int j => boolO (decide (i ≤ j))
  | _, _ => none
def gtD : B2
  | .int i, .int j => boolO (decide (j < i))
  | .tuple xs, .tuple ys => match intsOf xs, intsOf ys with
    | some ns, some ms => boolO (HT.lexLt ms ns)
    | _, _ => none
  | _, _ => none
def geD : B2
  | .int i, .int j => boolO (decide (j ≤ i))
  | _, _ => none
def inD (neg : Bool) : B2
  | u, .list ds => if inOk u ds = true then boolO (neg != ds.any fun z => PyData.eqv z u) else none
  | u, .tuple ds => if inOk u ds = true then boolO (neg != ds.any fun z => PyData.eqv z u) else none
  | u, .dict ps => (getP ps u).bind fun r => boolO (neg != r.isSome)
  | _, _ => none
def isNone : PyData → Bool
  | .none => true
  | _ => false
def isND (neg : Bool) : B2
  | u, .none => boolO (neg != isNone u)
  | _, _ => none
def cmpD : CmpOp → B2
  | .Eq => fun u v => if eqOk u v = true then boolO (PyData.eqv u v) else none
  | .NotEq => fun u v => if eqOk u v = true then boolO (!PyData.eqv u v) else none
  | .Lt => ltD
  | .LtE => leD
  | .Gt => gtD
  | .GtE => geD
  | .Is => isND false
  | .IsNot => isND true
  | .In => inD false
  | .NotIn => inD true

theorem intsOf_reps {K : PySem.W.Frag} {H : Hp} : ∀ {ds : List PyData} {vs : List V} {ns : List Int}, intsOf ds = some ns → Reps K H vs ds → vs = ns.map V.int
  | [], vs, ns, h, r => by cases h; cases r; rfl
  | d :: ds, vs, ns, h, r => by
    cases r with
    | cons r t =>
      cases d with
      | int i =>
        unfold intsOf at h
        cases q : intsOf ds with
        | none => rw [q] at h; cases h
        | some ms =>
          rw [q] at h; cases h
          cases r
          rw [intsOf_reps q t]; rfl
      | _ => cases h
/-- > of tuples of ints -/
def rGtT (K : PySem.W.Frag) : R2 := fun x y H Q => ∃ a b ns ms, x = .ref a ∧ y = .ref b ∧ SqT K H a (ns.map V.int) ∧ SqT K H b (ms.map V.int) ∧ Q (.bl (HT.lexLt ms ns)) H
theorem lexAt_shift (e r : Nat → Bool) (z : Bool) : ∀ (k i : Nat), Ob.lexAt e r z (i + 1) k = Ob.lexAt (fun j => e (j + 1)) (fun j => r (j + 1)) z i k
  | 0, _ => rfl
  | k + 1, i => by rw [Ob.lexAt_succ, Ob.lexAt_succ, lexAt_shift e r z k (i + 1)]
theorem lexAt_gt : ∀ (ns ms : List Int), Ob.lexAt (fun j => decide (ns.getD j 0 = ms.getD j 0)) (fun j => decide (ms.getD j 0 < ns.getD j 0)) (decide (ms.length < ns.length)) 0 (min ns.length ms.length) = HT.lexLt ms ns
  | [], [] => rfl
  | [], _ :: _ => rfl
  | _ :: _, [] => by simp [Ob.lexAt_zero, HT.lexLt_nil_cons]
  | x :: xs, y :: ys => by
    have e : min (x :: xs).length (y :: ys).length = min xs.length ys.length + 1 := by simp only [List.length_cons]; omega
    rw [e, Ob.lexAt_succ, lexAt_shift, HT.lexLt_cons]
    have e2 : decide ((y :: ys).length < (x :: xs).length) = decide (ys.length < xs.length) := by simp
    have ih := lexAt_gt xs ys
    by_cases h : x = y
    · subst h
      rw [if_pos (by simp), if_pos rfl, e2]
      simpa using ih
    · rw [if_neg (by simp [h]), if_neg (fun z => h z.symm)]
      simp
theorem op_gtT (hu : X.A.units < cLine) : OpR X (compareOp .Gt) (rGtT X.K) := by
  intro pins s σ H x y v u Q I rx ry h
  obtain ⟨a, b, ns, ms, rfl, rfl, ha, hb, q⟩ := h
  cases rx
  cases ry
  obtain ⟨its, r1, p1, _⟩ := I.tuple ha
  obtain ⟨its2, r2, p2, _⟩ := I.tuple hb
  have i1 : IntsAre its ns := Vals.ints r1
  have i2 : IntsAre its2 ms := Vals.ints r2
  have e1 : its.toArray.size = ns.length := by rw [List.size_toArray]; exact i1.length
  have e2 : its2.toArray.size = ms.length := by rw [List.size_toArray]; exact i2.length
  have at1 : ∀ j (h1 : j < its.toArray.size), ∃ t, its.toArray[j] = .int (ns.getD j 0) t := fun j h1 => PyProof.Rows.IntsAre.int_at i1 _ _ (by simp at h1; simp [h1])
  have at2 : ∀ j (h1 : j < its2.toArray.size), ∃ t, its2.toArray[j] = .int (ms.getD j 0) t := fun j h1 => PyProof.Rows.IntsAre.int_at i2 _ _ (by simp at h1; simp [h1])
  have R := Ob.RcOp.tuples_gt (A := X.A) (s := s) (e := fun j => decide (ns.getD j 0 = ms.getD j 0)) (r := fun j => decide (ms.getD j 0 < ns.getD j 0)) p1 p2 hu (fun j h1 h2 => by
    obtain ⟨t, et⟩ := at1 j h1
    obtain ⟨t', et'⟩ := at2 j h2
    rw [et, et']
    have z : (ns.getD j 0 == ms.getD j 0) = decide (ns.getD j 0 = ms.getD j 0) := by
      by_cases q : ns.getD j 0 = ms.getD j 0
      · rw [decide_eq_true q]; exact beq_iff_eq.mpr q
      · rw [decide_eq_false q]; exact beq_eq_false_iff_ne.mpr q
    rw [← z]
    exact SeqAt.EqAt.int_int _ _ _ _) (fun j h1 h2 _ => by
    obtain ⟨t, et⟩ := at1 j h1
    obtain ⟨t', et'⟩ := at2 j h2
    rw [et, et']
    exact Ob.RcOp.gt_int _ _ _ _)
  rw [e1, e2] at R
  have z : wpAny (model X.prog X.w) X.A (compareOp .Gt (.ref a) (.ref b)) (EP X pins σ Q) X.xe s := R X.prog X.w X.xe (EP X pins σ Q) ⟨.bl _, H, I, rfl, by
    have q' := q
    rw [← lexAt_gt ns ms] at q'
    exact q'⟩
  exact z

theorem boolO_some {b : Bool} {o : Or} (h : boolO b = some o) : o = .old (.bool b) := (Option.some.inj h).symm
theorem opLt (hu : X.A.units < cLine) : OpR X (compareOp .Lt) (rD X.K ltD) :=
  (op_lt.or (op_lt_str.or (op_ltT hu))).imp fun x y H Q ⟨B, u, v, o, s, hu, hv, ho, post⟩ => by
    unfold ltD at ho
    split at ho
    · cases boolO_some ho; exact .inl ⟨_, _, hu.int, hv.int, post _ (.bl _)⟩
    · cases boolO_some ho; exact .inr (.inl ⟨_, _, hu.str, hv.str, post _ (.bl _)⟩)
    · split at ho
      · rename_i hn hm
        cases boolO_some ho
        obtain ⟨a, as, rfl, ta, ra⟩ := hu.tup
        obtain ⟨b, bs, rfl, tb, rb⟩ := hv.tup
        cases intsOf_reps hn ra
        cases intsOf_reps hm rb
        exact .inr (.inr ⟨a, b, _, _, rfl, rfl, same_seqT s ta, same_seqT s tb, post _ (.bl _)⟩)
      · cases ho
    · cases ho
theorem opGt (hu : X.A.units < cLine) : OpR X (compareOp .Gt) (rD X.K gtD) :=
  (op_gt.or (op_gtT hu)).imp fun x y H Q ⟨B, u, v, o, s, hu, hv, ho, post⟩ => by
    unfold gtD at ho
    split at ho
    · cases boolO_some ho; exact .inl ⟨_, _, hu.int, hv.int, post _ (.bl _)⟩
    · split at ho
      · rename_i hn hm
        cases boolO_some ho
        obtain ⟨a, as, rfl, ta, ra⟩ := hu.tup
        obtain ⟨b, bs, rfl, tb, rb⟩ := hv.tup
        cases intsOf_reps hn ra
        cases intsOf_reps hm rb
        exact .inr ⟨a, b, _, _, rfl, rfl, same_seqT s ta, same_seqT s tb, post _ (.bl _)⟩
      · cases ho
    · cases ho
theorem opLe : OpR X (compareOp .LtE) (rD X.K leD) :=
  op_le.imp fun x y H Q ⟨B, u, v, o, s, hu, hv, ho, post⟩ => by
    unfold leD at ho
    split at ho
    · cases boolO_some ho; exact ⟨_, _, hu.int, hv.int, post _ (.bl _)⟩
    · cases ho
theorem opGe : OpR X (compareOp .GtE) (rD X.K geD) :=
  op_ge.imp fun x y H Q ⟨B, u, v, o, s, hu, hv, ho, post⟩ => by
    unfold geD at ho
    split at ho
    · cases boolO_some ho; exact ⟨_, _, hu.int, hv.int, post _ (.bl _)⟩
    · cases ho
theorem scal_eq {K : PySem.W.Frag} {B H : Hp} {x y : V} {u v : PyData} (h : scalD u v = true) (hu : RepO K B H x u) (hv : RepO K B H y v) : scal x y = true ∧ decide (x = y) = PyData.eqv u v := by
  cases u <;> cases v <;> first | cases h | skip
  all_goals first | (cases hu.non) | (cases hu.bl) | (cases hu.int) | (cases hu.str)
  all_goals first | (cases hv.non) | (cases hv.bl) | (cases hv.int) | (cases hv.str)
  all_goals refine ⟨rfl, ?_⟩
  all_goals first | rfl | (simp [PyData.eqv]; done) | (simp only [PyData.eqv]; exact dec_int) | (simp only [PyData.eqv]; exact dec_bl) | (simp only [PyData.eqv]; exact dec_str)
theorem opEq (hu : X.A.units + 64 < cLine) : OpR X (compareOp .Eq) (rD X.K (cmpD .Eq)) :=
  (op_eq.or (op_eqD hu)).imp fun x y H Q ⟨B, u, v, o, s, hu, hv, ho, post⟩ => by
    have ho : (if eqOk u v = true then boolO (PyData.eqv u v) else none) = some o := ho
    split at ho
    · rename_i hk
      cases boolO_some ho
      rcases Bool.or_eq_true_iff.mp hk with hk | hk
      · obtain ⟨h1, h2⟩ := scal_eq hk hu hv
        exact .inl ⟨h1, by rw [h2]; exact post _ (.bl _)⟩
      · obtain ⟨h1, h2⟩ := Bool.and_eq_true_iff.mp hk
        exact .inr ⟨u, v, (hu.rep s).dp (canLay_of h1), (hv.rep s).dp (canLay_of h2), h1, h2, post _ (.bl _)⟩
    · cases ho
theorem opNe (hu : X.A.units + 64 < cLine) : OpR X (compareOp .NotEq) (rD X.K (cmpD .NotEq)) :=
  (op_ne.or (op_neD hu)).imp fun x y H Q ⟨B, u, v, o, s, hu, hv, ho, post⟩ => by
    have ho : (if eqOk u v = true then boolO (!PyData.eqv u v) else none) = some o := ho
    split at ho
    · rename_i hk
      cases boolO_some ho
      rcases Bool.or_eq_true_iff.mp hk with hk | hk
      · obtain ⟨h1, h2⟩ := scal_eq hk hu hv
        exact .inl ⟨h1, by rw [h2]; exact post _ (.bl _)⟩
      · obtain ⟨h1, h2⟩ := Bool.and_eq_true_iff.mp hk
        exact .inr ⟨u, v, (hu.rep s).dp (canLay_of h1), (hv.rep s).dp (canLay_of h2), h1, h2, post _ (.bl _)⟩
    · cases ho
theorem isNone_eq {K : PySem.W.Frag} {B H : Hp} {x : V} {u : PyData} (s : Same B H) (hu : RepO K B H x u) : decide (x = .non) = isNone u := by
  cases u with
  | none => cases hu.non; rfl
  | int _ => cases hu.int; rfl
  | bool _ => cases hu.bl; rfl
  | str _ => cases hu.str; rfl
  | tuple _ => obtain ⟨_, _, rfl, _⟩ := hu.tup; rfl
  | list _ => obtain ⟨_, _, rfl, _⟩ := hu.lst s; rfl
  | dict _ => obtain ⟨_, rfl, _⟩ := hu.dicV s; rfl
theorem opIs : OpR X (compareOp .Is) (rD X.K (isND false)) :=
  op_isN.imp fun x y H Q ⟨B, u, v, o, s, hu, hv, ho, post⟩ => by
    unfold isND at ho
    split at ho
    · cases boolO_some ho
      exact ⟨hv.non, by rw [isNone_eq s hu]; exact post _ (by rw [Bool.false_bne]; exact .bl _)⟩
    · cases ho
theorem opIsNot : OpR X (compareOp .IsNot) (rD X.K (isND true)) :=
  op_notN.imp fun x y H Q ⟨B, u, v, o, s, hu, hv, ho, post⟩ => by
    unfold isND at ho
    split at ho
    · cases boolO_some ho
      exact ⟨hv.non, by rw [isNone_eq s hu]; exact post _ (by rw [Bool.true_bne]; exact .bl _)⟩
    · cases ho
theorem flat_V {K : PySem.W.Frag} {B : Hp} {x : V} {u : PyData} (h : Rep K B x u) (f : flat u = true) : flatV x = true := by
  cases h with
  | non => rfl
  | bl _ => rfl
  | int _ => rfl
  | str _ => rfl
  | lst _ _ => cases f
  | tup _ _ => cases f
  | dK _ _ _ => cases f
  | dN _ _ _ _ _ => cases f
theorem flat_eqV {K : PySem.W.Frag} {B : Hp} {x y : V} {u v : PyData} (hu : Rep K B x u) (hv : Rep K B y v) (fu : flat u = true) (fv : flat v = true) : eqV x y = PyData.eqv u v := by
  cases hu <;> cases hv <;> first | rfl | (cases fu; done) | (cases fv; done)
theorem flat_all {K : PySem.W.Frag} {B : Hp} : ∀ {vs : List V} {ds : List PyData}, Reps K B vs ds → ds.all flat = true → vs.all flatV = true
  | _, _, .nil, _ => rfl
  | _, _, .cons r t, h => by
    rw [List.all_cons, Bool.and_eq_true] at h
    rw [List.all_cons, flat_V r h.1, flat_all t h.2]; rfl
theorem flat_inV {K : PySem.W.Frag} {B : Hp} {x : V} {u : PyData} (hx : Rep K B x u) (fu : flat u = true) : ∀ {vs : List V} {ds : List PyData}, Reps K B vs ds → ds.all flat = true → inV x vs = ds.any fun z => PyData.eqv z u
  | _, _, .nil, _ => rfl
  | _, _, .cons r t, h => by
    rw [List.all_cons, Bool.and_eq_true] at h
    unfold inV
    rw [List.any_cons, List.any_cons, flat_eqV r hx h.1 fu]
    have e := flat_inV hx fu t h.2
    unfold inV at e
    rw [e]
end
end PyI


/-! # sorted of tuples of ints and tuples of ints, all of one shape -/
namespace PyI
open PySem PySem.Spec L2 PyProof.Rows PySem.SeqAt
/-! ## the order -/
theorem lex_asym : ∀ (x y : List Int), HT.lexLt x y = true → HT.lexLt y x = false
  | [], [], h => by rw [HT.lexLt_nil_nil] at h; cases h
  | [], _ :: _, _ => HT.lexLt_cons_nil _ _
  | _ :: _, [], h => by rw [HT.lexLt_cons_nil] at h; cases h
  | a :: x, b :: y, h => by
    rw [HT.lexLt_cons] at h ⊢
    by_cases e : a = b
    · rw [if_pos e] at h
      rw [if_pos e.symm]
      exact lex_asym x y h
    · rw [if_neg e] at h
      rw [if_neg (fun z => e z.symm)]
      have := of_decide_eq_true h
      exact decide_eq_false (by omega)
theorem lex_anti : ∀ (x y : List Int), HT.lexLt x y = false → HT.lexLt y x = false → x = y
  | [], [], _, _ => rfl
  | [], _ :: _, h, _ => by rw [HT.lexLt_nil_cons] at h; cases h
  | _ :: _, [], _, h => by rw [HT.lexLt_nil_cons] at h; cases h
  | a :: x, b :: y, h, k => by
    rw [HT.lexLt_cons] at h k
    by_cases e : a = b
    · rw [if_pos e] at h
      rw [if_pos e.symm] at k
      rw [e, lex_anti x y h k]
    · rw [if_neg e] at h
      rw [if_neg (fun z => e z.symm)] at k
      have := of_decide_eq_false h
      have := of_decide_eq_false k
      omega
theorem lex_tr : ∀ (x y z : List Int), HT.lexLt y x = false → HT.lexLt z y = false → HT.lexLt z x = false
  | [], _, [], _, _ => HT.lexLt_nil_nil
  | [], _, _ :: _, _, _ => HT.lexLt_cons_nil _ _
  | _ :: _, [], _, h, _ => by rw [HT.lexLt_nil_cons] at h; cases h
  | _ :: _, _ :: _, [], _, h => by rw [HT.lexLt_nil_cons] at h; cases h
  | a :: x, b :: y, c :: z, h, k => by
    rw [HT.lexLt_cons] at h k ⊢
    by_cases e : b = a
    · subst e
      rw [if_pos rfl] at h
      by_cases f : c = b
      · subst f
        rw [if_pos rfl] at k ⊢
        exact lex_tr x y z h k
      · rw [if_neg f] at k ⊢
        exact k
    · rw [if_neg e] at h
      have h' := of_decide_eq_false h
      by_cases f : c = b
      · subst f
        rw [if_neg e]
        exact h
      · rw [if_neg f] at k
        have k' := of_decide_eq_false k
        rw [if_neg (by omega)]
        exact decide_eq_false (by omega)
theorem lex_swo {α : Type} (k : α → List Int) : SrtO.Swo fun x y => HT.lexLt (k x) (k y) := ⟨fun _ _ => lex_asym _ _, fun _ _ _ => lex_tr _ _ _⟩
theorem lex_app : ∀ (n m ns ms : List Int), n.length = m.length → HT.lexLt (n ++ ns) (m ++ ms) = if n = m then HT.lexLt ns ms else HT.lexLt n m
  | [], [], _, _, _ => rfl
  | a :: n, b :: m, ns, ms, h => by
    rw [List.cons_append, List.cons_append, HT.lexLt_cons, HT.lexLt_cons]
    by_cases e : a = b
    · subst e
      rw [if_pos rfl, if_pos rfl, lex_app n m ns ms (by simpa using h)]
      by_cases f : n = m
      · rw [if_pos f, if_pos (by rw [f])]
      · rw [if_neg f, if_neg (fun z => f (List.cons.inj z).2)]
    · rw [if_neg e, if_neg e, if_neg (fun z => e (List.cons.inj z).1)]
/-! ## keys in a heap -/
inductive ItemIn (h : Heap) : Nat → Value → List Int → Prop
  | int (i : Int) (t : Tok) : ItemIn h 0 (.int i t) [i]
  | tup {a : Addr} {its : List Value} {ns : List Int} : h.IsTuple a its.toArray → IntsAre its ns → ItemIn h (ns.length + 1) (.ref a) ns
inductive ItemsIn (h : Heap) : List Nat → List Value → List Int → Prop
  | nil : ItemsIn h [] [] []
  | cons {c : Nat} {cs : List Nat} {v : Value} {vs : List Value} {ns ms : List Int} : ItemIn h c v ns → ItemsIn h cs vs ms → ItemsIn h (c :: cs) (v :: vs) (ns ++ ms)
def KeyIn (h : Heap) (cs : List Nat) (v : Value) (ns : List Int) : Prop := ∃ a its, v = .ref a ∧ h.IsTuple a its.toArray ∧ ItemsIn h cs its ns
def KeepsT (h h' : Heap) : Prop := ∀ b o, h.get? b = some o → o.cls = .type "tuple" → h'.get? b = some o
theorem isTuple_keeps {h h' : Heap} (k : KeepsT h h') {a : Addr} {xs : Array Value} (t : h.IsTuple a xs) : h'.IsTuple a xs := by
  obtain ⟨o, ho, hc, r⟩ := t
  exact ⟨o, k _ _ ho hc, hc, r⟩
theorem ItemIn.keeps {h h' : Heap} (k : KeepsT h h') {c : Nat} {v : Value} {ns : List Int} : ItemIn h c v ns → ItemIn h' c v ns
  | .int i t => .int i t
  | .tup p r => .tup (isTuple_keeps k p) r
theorem ItemsIn.keeps {h h' : Heap} (k : KeepsT h h') : ∀ {cs : List Nat} {vs : List Value} {ns : List Int}, ItemsIn h cs vs ns → ItemsIn h' cs vs ns
  | _, _, _, .nil => .nil
  | _, _, _, .cons p r => .cons (p.keeps k) (r.keeps k)
theorem KeyIn.keeps {h h' : Heap} (k : KeepsT h h') {cs : List Nat} {v : Value} {ns : List Int} (p : KeyIn h cs v ns) : KeyIn h' cs v ns := by
  obtain ⟨a, its, e, t, r⟩ := p
  exact ⟨a, its, e, isTuple_keeps k t, r.keeps k⟩
theorem isTuple_det {h : Heap} {a : Addr} {xs ys : List Value} (p : h.IsTuple a xs.toArray) (q : h.IsTuple a ys.toArray) : xs = ys := by
  obtain ⟨o, ho, _, n, hd⟩ := p
  obtain ⟨o', ho', _, n', hd'⟩ := q
  rw [ho] at ho'
  cases ho'
  rw [hd] at hd'
  have := (Data.seq.inj hd').1
  simpa using this
theorem ints_det : ∀ {vs : List Value} {ns ms : List Int}, IntsAre vs ns → IntsAre vs ms → ns = ms := by
  intro vs ns ms h k
  have h1 := IntsAre.length h
  have h2 := IntsAre.length k
  refine List.ext_getElem (by omega) fun i a b => ?_
  have hi : i < vs.length := by omega
  obtain ⟨n, t, e, en⟩ := IntsAre.at h i vs[i] (List.getElem?_eq_getElem hi)
  obtain ⟨m, u, f, fm⟩ := IntsAre.at k i vs[i] (List.getElem?_eq_getElem hi)
  rw [e] at f
  cases f
  rw [List.getElem?_eq_getElem a] at en
  rw [List.getElem?_eq_getElem b] at fm
  rw [Option.some.inj en, Option.some.inj fm]
theorem ItemIn.det {h : Heap} {c : Nat} {v : Value} {ns ms : List Int} (p : ItemIn h c v ns) (q : ItemIn h c v ms) : ns = ms := by
  cases p with
  | int i t => cases q; rfl
  | tup p r =>
    generalize hc : ns.length + 1 = c at q
    cases q with
    | tup p' r' =>
      have := isTuple_det p p'
      subst this
      exact ints_det r r'
theorem ItemsIn.det {h : Heap} : ∀ {cs : List Nat} {vs : List Value} {ns ms : List Int}, ItemsIn h cs vs ns → ItemsIn h cs vs ms → ns = ms
  | _, _, _, _, .nil, .nil => rfl
  | _, _, _, _, .cons p r, .cons p' r' => by rw [p.det p', r.det r']
theorem KeyIn.det {h : Heap} {cs : List Nat} {v : Value} {ns ms : List Int} (p : KeyIn h cs v ns) (q : KeyIn h cs v ms) : ns = ms := by
  obtain ⟨a, its, e, t, r⟩ := p
  obtain ⟨a', its', e', t', r'⟩ := q
  rw [e] at e'
  cases e'
  have := isTuple_det t t'
  subst this
  exact r.det r'
/-! ## comparing them -/
section
variable {prog : Program} {w : World} {A : Around} {s : Shared}
theorem getD_eq {ns ms : List Int} (j : Nat) : (ns.getD j 0 == ms.getD j 0) = decide (ns.getD j 0 = ms.getD j 0) := by
  by_cases q : ns.getD j 0 = ms.getD j 0
  · rw [decide_eq_true q]; exact beq_iff_eq.mpr q
  · rw [decide_eq_false q]; exact beq_eq_false_iff_ne.mpr q
theorem ints_at {vs : List Value} {ns : List Int} (i : IntsAre vs ns) (j : Nat) (h1 : j < vs.toArray.size) : ∃ t, vs.toArray[j] = .int (ns.getD j 0) t := PyProof.Rows.IntsAre.int_at i _ _ (by simp at h1; simp [h1])
theorem tup_eq {a b : Addr} {vs us : List Value} {ns ms : List Int} (p : s.heap.IsTuple a vs.toArray) (q : s.heap.IsTuple b us.toArray) (i1 : IntsAre vs ns) (i2 : IntsAre us ms) (hl : ns.length = ms.length) (hu : A.units < cLine) : EqAt A s (.ref a) (.ref b) (decide (ns = ms)) := by
  by_cases e : a = b
  · subst e
    have := isTuple_det p q
    subst this
    rw [decide_eq_true (ints_det i1 i2)]
    exact EqAt.same _
  · have e1 : vs.toArray.size = ns.length := by rw [List.size_toArray]; exact i1.length
    have e2 : us.toArray.size = ms.length := by rw [List.size_toArray]; exact i2.length
    have R := RcAt.tuples (A := A) (s := s) (e := fun j => decide (ns.getD j 0 = ms.getD j 0)) p q hu (fun j h1 h2 => by
      obtain ⟨t, et⟩ := ints_at i1 j h1
      obtain ⟨t', et'⟩ := ints_at i2 j h2
      rw [et, et', ← getD_eq]
      exact SeqAt.EqAt.int_int _ _ _ _)
    rw [e1, e2, ← hl, Nat.min_self, beq_self_eq_true, Bool.and_true] at R
    have z : (List.range ns.length).all (fun j => decide (ns.getD j 0 = ms.getD j 0)) = decide (ns = ms) := by
      by_cases f : ns = ms
      · rw [decide_eq_true f, f]
        simp
      · rw [decide_eq_false f]
        refine Bool.eq_false_iff.mpr fun h => f ?_
        rw [List.all_eq_true] at h
        refine List.ext_getElem hl fun j a b => ?_
        have := of_decide_eq_true (h j (List.mem_range.mpr a))
        simpa [List.getD_eq_getElem?_getD, List.getElem?_eq_getElem a, List.getElem?_eq_getElem b] using this
    rw [z] at R
    exact EqAt.of_refs e R
theorem tup_lt {a b : Addr} {vs us : List Value} {ns ms : List Int} (p : s.heap.IsTuple a vs.toArray) (q : s.heap.IsTuple b us.toArray) (i1 : IntsAre vs ns) (i2 : IntsAre us ms) (hu : A.units < cLine) : Ob.RcOp .Lt A s (.ref a) (.ref b) (HT.lexLt ns ms) := by
  have e1 : vs.toArray.size = ns.length := by rw [List.size_toArray]; exact i1.length
  have e2 : us.toArray.size = ms.length := by rw [List.size_toArray]; exact i2.length
  have R := Ob.RcOp.tuples_lt (A := A) (s := s) (e := fun j => decide (ms.getD j 0 = ns.getD j 0)) (r := fun j => decide (ns.getD j 0 < ms.getD j 0)) p q hu (fun j h1 h2 => by
    obtain ⟨t, et⟩ := ints_at i1 j h1
    obtain ⟨t', et'⟩ := ints_at i2 j h2
    have z : decide (ms.getD j 0 = ns.getD j 0) = (ns.getD j 0 == ms.getD j 0) := by
      rw [getD_eq]
      by_cases q : ns.getD j 0 = ms.getD j 0
      · rw [decide_eq_true q, decide_eq_true q.symm]
      · rw [decide_eq_false q, decide_eq_false (fun z => q z.symm)]
    rw [et, et']
    show EqAt A.in1 s _ _ (decide (ms.getD j 0 = ns.getD j 0))
    rw [z]
    exact SeqAt.EqAt.int_int _ _ _ _) (fun j h1 h2 _ => by
    obtain ⟨t, et⟩ := ints_at i1 j h1
    obtain ⟨t', et'⟩ := ints_at i2 j h2
    rw [et, et']
    exact Ob.RcOp.lt_int _ _ _ _)
  rw [e1, e2, Nat.min_comm, lexAt_gt ms ns] at R
  exact R
theorem key_lex {b : Bool} {Q : Bool → Shared → Prop} (hu : A.units < cLine) : ∀ {cs : List Nat} {vs us : List Value} {ns ms : List Int} (i : Nat), ItemsIn s.heap cs vs ns → ItemsIn s.heap cs us ms → (b = true → i = 0 → cs.head? = some 0) → Q (HT.lexLt ns ms) s →
    PySem.W.KatLex prog w A b false Q (vs.zip us) i s
  | _, _, _, _, _, i, .nil, .nil, _, h => PySem.W.kat_nil h
  | _, v :: vs, u :: us, _, _, i, .cons (c := c) (ns := n1) (ms := ns) p r, .cons (ns := m1) (ms := ms) p' r', hb, h => by
    have len : n1.length = m1.length := by
      cases p with
      | int => cases p'; rfl
      | tup _ _ =>
        generalize hc : n1.length + 1 = c at p'
        cases p' with
        | int => omega
        | tup _ _ => omega
    rw [lex_app n1 m1 ns ms len] at h
    have next : n1 = m1 → PySem.W.KatLex prog w A b false Q (vs.zip us) (i + 1) s := fun e => by
      rw [if_pos e] at h
      exact key_lex hu (i + 1) r r' (fun _ z => absurd z (by omega)) h
    cases p with
    | int x t =>
      cases p' with
      | int y t' =>
        refine PySem.W.kat_cons (SeqAt.EqAt.int_int x t y t' prog w _ _ (PySem.W.kat_go (fun e => ?_) fun e => ?_))
        · have e' : x = y := by simpa using e
          exact PySem.W.kat_yes (next (by rw [e']))
        · have e' : ¬ x = y := by simpa using e
          rw [if_neg (by simpa using e'), HT.lexLt_cons, if_neg e'] at h
          refine PySem.W.kat_no ?_
          cases b && i == 0 with
          | true => exact oneLt_int h
          | false => exact PySem.W.kat_one _ _ (PyProof.Rows.lt_int h)
    | tup p r2 =>
      generalize hc : n1.length + 1 = c at p'
      cases p' with
      | int => omega
      | tup p' r2' =>
        refine PySem.W.kat_cons (tup_eq p p' r2 r2' len hu prog w _ _ (PySem.W.kat_go (fun e => ?_) fun e => ?_))
        · exact PySem.W.kat_yes (next (of_decide_eq_true e))
        · have e' := of_decide_eq_false e
          rw [if_neg e'] at h
          refine PySem.W.kat_no ?_
          have hf : (b && i == 0) = false := by
            cases hbi : b && i == 0 with
            | false => rfl
            | true =>
              rw [Bool.and_eq_true] at hbi
              have := hb hbi.1 (by simpa using hbi.2)
              simp at this
          rw [hf]
          exact PySem.W.kat_one _ _ (tup_lt p p' r2 r2' hu prog w _ _ h)
theorem key_cmp {b : Bool} {vs : List Value} {k : Value → List Int} {cs : List Nat} (hu : A.units < cLine) (hb : b = true → cs.head? = some 0) (hp : ∀ v ∈ vs, KeyIn s.heap cs v (k v)) : SrtO.Cmp prog w A s (tuples' b) (fun p => p.1 ∈ vs) (SrtO.lt2 fun v u => HT.lexLt (k v) (k u)) := by
  intro p q hm hm'
  have h1 := hp _ hm
  have h2 := hp _ hm'
  show wpAny (model prog w) A (keyLt' (tuples' b) p.1 q.1) (fun r s' => s' = s ∧ r = HT.lexLt (k p.1) (k q.1)) (fun _ _ => False) s
  generalize k p.1 = ns at h1 ⊢
  generalize k q.1 = ms at h2 ⊢
  obtain ⟨a, its, e, ⟨o, ho, hc, n, hd⟩, r⟩ := h1
  obtain ⟨a', its', e', ⟨o', ho', hc', n', hd'⟩, r'⟩ := h2
  rw [e, e']
  refine PySem.W.kat_lt ho hd ho' hd' ?_
  have hz : ∀ {cs : List Nat} {vs : List Value} {ns : List Int}, ItemsIn s.heap cs vs ns → vs.length = cs.length := by
    intro cs vs ns h
    induction h with
    | nil => rfl
    | cons _ _ ih => simp [ih]
  have l1 := hz r
  have l2 := hz r'
  rw [show decide (its.toArray.size < its'.toArray.size) = false by simp [l1, l2]]
  exact key_lex hu 0 r r' (fun z _ => hb z) ⟨rfl, rfl⟩
theorem key_firsts {h : Heap} {c : Nat} {cs : List Nat} {k : Value → List Int} : ∀ {vs : List Value}, (∀ v ∈ vs, KeyIn h (c :: cs) v (k v)) → ∃ fs : List Value, PySem.W.KatTups h vs fs ∧ fs.length = vs.length ∧ ∀ f ∈ fs, ∃ ns, ItemIn h c f ns
  | [], _ => ⟨[], PySem.W.KatTups.nil, rfl, fun _ hm => by simp at hm⟩
  | v :: vs, hp => by
    obtain ⟨fs, h1, h2, h3⟩ := key_firsts (vs := vs) fun v' hm => hp v' (List.mem_cons_of_mem _ hm)
    obtain ⟨a, its, e, ⟨o, ho, hc, n, hd⟩, r⟩ := hp v (List.mem_cons_self ..)
    generalize k v = q at r
    cases r with
    | cons p r =>
      subst e
      refine ⟨_ :: fs, PySem.W.KatTups.cons ho hc hd (by rfl) h1, by rw [List.length_cons, List.length_cons, h2], fun f hm => ?_⟩
      rcases List.mem_cons.mp hm with rfl | hm
      · exact ⟨_, p⟩
      · exact h3 f hm
theorem key_sortable {a : Addr} {vs : List Value} {k : Value → List Int} {c : Nat} {cs : List Nat} (hu : A.units < cLine) (h0 : 0 < vs.length) (hp : ∀ v ∈ vs, KeyIn s.heap (c :: cs) v (k v)) (ha : ∀ o, s.heap.get? a = some o → o.cls ≠ .type "tuple") :
    SrtO.SortableO prog w A s a vs fun v u => HT.lexLt (k v) (k u) := by
  intro h' keep
  have kp : KeepsT s.heap h' := fun b o e hc => keep b o (fun z => by subst z; exact ha o e hc) e
  have hp' : ∀ v ∈ vs, KeyIn h' (c :: cs) v (k v) := fun v hm => (hp v hm).keeps kp
  obtain ⟨fs, h1, h2, h3⟩ := key_firsts hp'
  cases c with
  | zero =>
    refine ⟨tuples' true, fun Q E hq => ?_, key_cmp (s := { s with heap := h' }) hu (fun _ => rfl) hp'⟩
    refine PySem.W.kat_kind (T := .type "int") h1 (by omega) (fun f hm => ?_) (by rfl) ?_
    · obtain ⟨ns, p⟩ := h3 f hm
      cases p
      exact PySem.W.Looks.now
    · have e : (Value.type "int" != Value.type "tuple") = true := by first | decide +kernel | rfl | decide
      rw [e]
      exact hq
  | succ c =>
    refine ⟨tuples' false, fun Q E hq => ?_, key_cmp (s := { s with heap := h' }) hu (fun z => by cases z) hp'⟩
    refine PySem.W.kat_kind (T := .type "tuple") h1 (by omega) (fun f hm => ?_) (by rfl) ?_
    · obtain ⟨ns, p⟩ := h3 f hm
      cases p with
      | tup p _ =>
        obtain ⟨o, ho, hc, _⟩ := p
        have z : PySem.W.Looks (model prog w) h' (typeOf (.ref _)) o.cls := (PySem.W.Looks.ld ho).andThen .now
        rw [hc] at z
        exact z
    · have e : (Value.type "tuple" != Value.type "tuple") = false := by first | rfl | decide | simp
      rw [e]
      exact hq
theorem sorted_keys {E : Value → Shared → Prop} {l : Addr} {vs : List Value} {k : Value → List Int} {c : Nat} {cs : List Nat} {Q : Value → Shared → Prop} (hu : A.in1.in1.units < cLine) (hl : s.heap.IsList l vs.toArray) (hz : vs.length ≤ sizeLine) (hp : ∀ v ∈ vs, KeyIn s.heap (c :: cs) v (k v))
    (h : ∀ (h' : Heap) (d : Addr) (out : List Value), SrtO.Srtd (fun v u => HT.lexLt (k v) (k u)) out → SrtO.Stb (fun v u => HT.lexLt (k v) (k u)) out vs → (∀ b o, s.heap.get? b = some o → h'.get? b = some o) → s.heap.objs.size ≤ d → (∃ n, h'.get? d = some (seqObj "list" out.toArray n)) → Q (.ref d) { s with heap := h' }) :
    wpAny (model prog w) A (call (.builtin "sorted") [.ref l]) Q E s := by
  refine SrtO.sorted_ord (lex_swo k) hl hz (fun h2 h₁ a ha kk => ?_) fun out hs hb => ?_
  · refine key_sortable (s := { s with heap := h₁ }) hu (by omega) (fun v hm => (hp v hm).keeps fun b o e _ => (kk b o e).2) fun o e => ?_
    have e' : some o = some (seqObj "list" vs.toArray 0) := e.symm.trans ha
    cases e'
    intro c
    exact absurd (Value.type.inj c) (by decide)
  · exact h _ _ out hs hb (fun b o e => sortedAll_old e) (Nat.le_succ _) (sortedAll_at s.heap vs out.toArray)
end
/-! ## the same of PyData -/
def itemK : PyData → Option (Nat × List Int)
  | .int i => some (0, [i])
  | .tuple ds => (intsOf ds).map fun ns => (ns.length + 1, ns)
  | _ => none
theorem itemK_tup (ds : List PyData) : itemK (.tuple ds) = (intsOf ds).map fun ns => (ns.length + 1, ns) := rfl
def itemsK : List PyData → Option (List Nat × List Int)
  | [] => some ([], [])
  | d :: ds => match itemK d, itemsK ds with
    | some (c, ns), some (cs, ms) => some (c :: cs, ns ++ ms)
    | _, _ => none
/-- shape and numbers of a tuple -/
def keyD : PyData → Option (List Nat × List Int)
  | .tuple ds => itemsK ds
  | _ => none
def keyOf (d : PyData) : List Int := match keyD d with
  | some p => p.2
  | none => []
def insK (y : PyData) : List PyData → List PyData
  | [] => [y]
  | z :: l => if HT.lexLt (keyOf z) (keyOf y) = true then z :: insK y l else y :: z :: l
def sortK : List PyData → List PyData
  | [] => []
  | x :: xs => insK x (sortK xs)
/-- tuples of one shape -/
def shapeAll (ds : List PyData) : Option (List Nat × List Int) → Bool
  | some (c :: cs, _) => ds.all fun e => decide ((keyD e).map (·.1) = some (c :: cs))
  | _ => false
def keysOk : List PyData → Bool
  | [] => false
  | d :: ds => shapeAll (d :: ds) (keyD d)
theorem insK_perm (y : PyData) : ∀ l : List PyData, (insK y l).Perm (y :: l)
  | [] => .refl _
  | z :: l => by
    unfold insK
    split
    · exact (List.Perm.cons z (insK_perm y l)).trans (List.Perm.swap y z l)
    · exact .refl _
theorem sortK_perm : ∀ l : List PyData, (sortK l).Perm l
  | [] => .nil
  | x :: xs => (insK_perm x _).trans ((sortK_perm xs).cons x)
abbrev KLe (x y : PyData) : Prop := HT.lexLt (keyOf y) (keyOf x) = false
theorem insK_sorted (y : PyData) : ∀ l : List PyData, l.Pairwise KLe → (insK y l).Pairwise KLe
  | [], _ => List.pairwise_singleton _ _
  | z :: l, h => by
    have h' := List.pairwise_cons.mp h
    unfold insK
    split
    · rename_i c
      refine List.pairwise_cons.mpr ⟨fun x hx => ?_, insK_sorted y l h'.2⟩
      rcases List.mem_cons.mp ((insK_perm y l).mem_iff.mp hx) with rfl | hx
      · exact lex_asym _ _ c
      · exact h'.1 x hx
    · rename_i c
      have c' : HT.lexLt (keyOf z) (keyOf y) = false := by simpa using c
      refine List.pairwise_cons.mpr ⟨fun x hx => ?_, h⟩
      rcases List.mem_cons.mp hx with rfl | hx
      · exact c'
      · exact lex_tr _ _ _ c' (h'.1 x hx)
theorem sortK_sorted : ∀ l : List PyData, (sortK l).Pairwise KLe
  | [] => .nil
  | x :: xs => insK_sorted x _ (sortK_sorted xs)
theorem intsOf_eq : ∀ {ds : List PyData} {ns : List Int}, intsOf ds = some ns → ds = ns.map .int
  | [], _, h => by cases h; rfl
  | d :: ds, ns, h => by
    cases d with
    | int i =>
      unfold intsOf at h
      cases hd : intsOf ds with
      | none => rw [hd] at h; cases h
      | some ms =>
        rw [hd] at h
        cases h
        rw [intsOf_eq hd]
        rfl
    | _ => cases h
theorem itemK_len {d : PyData} {c : Nat} {ns : List Int} (h : itemK d = some (c, ns)) : ns.length = if c = 0 then 1 else c - 1 := by
  cases d with
  | int i => cases h; rfl
  | tuple ds =>
    rw [itemK_tup] at h
    cases hd : intsOf ds with
    | none => rw [hd] at h; cases h
    | some ms => rw [hd] at h; cases h; simp
  | _ => cases h
theorem itemK_inj {d e : PyData} {c : Nat} {ns : List Int} (h : itemK d = some (c, ns)) (k : itemK e = some (c, ns)) : d = e := by
  cases d with
  | int i =>
    cases h
    cases e with
    | int j => cases k; rfl
    | tuple es =>
      rw [itemK_tup] at k
      cases he : intsOf es with
      | none => rw [he] at k; cases k
      | some ms => rw [he] at k; cases k
    | _ => cases k
  | tuple ds =>
    rw [itemK_tup] at h
    cases hd : intsOf ds with
    | none => rw [hd] at h; cases h
    | some ms =>
      rw [hd] at h
      cases h
      cases e with
      | int j => cases k
      | tuple es =>
        rw [itemK_tup] at k
        cases he : intsOf es with
        | none => rw [he] at k; cases k
        | some ms' =>
          rw [he] at k
          have : ms' = ns := by simpa using (congrArg Prod.snd (Option.some.inj k))
          subst this
          rw [intsOf_eq hd, intsOf_eq he]
      | _ => cases k
  | _ => cases h
theorem itemsK_inj : ∀ {ds es : List PyData} {cs : List Nat} {ns : List Int}, itemsK ds = some (cs, ns) → itemsK es = some (cs, ns) → ds = es
  | [], [], _, _, _, _ => rfl
  | [], e :: es, _, _, h, k => by
    cases h
    unfold itemsK at k
    split at k <;> cases k
  | d :: ds, [], _, _, h, k => by
    cases k
    unfold itemsK at h
    split at h <;> cases h
  | d :: ds, e :: es, cs, ns, h, k => by
    unfold itemsK at h k
    split at h
    · rename_i c n1 cs1 m1 a1 a2
      cases h
      split at k
      · rename_i c' n2 cs2 m2 b1 b2
        have k1 := congrArg Prod.fst (Option.some.inj k)
        have k2 := congrArg Prod.snd (Option.some.inj k)
        simp at k1 k2
        obtain ⟨rfl, rfl⟩ := k1
        have l1 := itemK_len a1
        have l2 := itemK_len b1
        obtain ⟨rfl, rfl⟩ := List.append_inj k2 (by omega)
        rw [itemK_inj a1 b1, itemsK_inj a2 b2]
      · cases k
    · cases h
theorem keyD_inj {d e : PyData} {p : List Nat × List Int} (h : keyD d = some p) (k : keyD e = some p) : d = e := by
  cases d <;> first | (cases h; done) | skip
  cases e <;> first | (cases k; done) | skip
  rw [itemsK_inj (cs := p.1) (ns := p.2) h k]
/-- two sorted rearrangements of tuples of one shape -/
theorem sortK_uniq {cs : List Nat} : ∀ {l m : List PyData}, l.Perm m → l.Pairwise KLe → m.Pairwise KLe → (∀ d ∈ l, ∃ ns, keyD d = some (cs, ns)) → l = m
  | [], m, h, _, _, _ => (List.Perm.eq_nil h.symm).symm
  | x :: l, [], h, _, _, _ => absurd h.length_eq (by simp)
  | x :: l, y :: m, h, hl, hm, hk => by
    have hl' := List.pairwise_cons.mp hl
    have hm' := List.pairwise_cons.mp hm
    have r : ∀ d, HT.lexLt (keyOf d) (keyOf d) = false := fun d => (lex_swo keyOf).refl d
    have h1 : HT.lexLt (keyOf x) (keyOf y) = false := by
      rcases List.mem_cons.mp (h.mem_iff.mp (List.mem_cons_self (a := x) (l := l))) with e | hx
      · rw [e]; exact r y
      · exact hm'.1 x hx
    have hy : y ∈ x :: l := h.mem_iff.mpr List.mem_cons_self
    have h2 : HT.lexLt (keyOf y) (keyOf x) = false := by
      rcases List.mem_cons.mp hy with e | hy
      · rw [e]; exact r x
      · exact hl'.1 y hy
    have e : x = y := by
      obtain ⟨n1, k1⟩ := hk x List.mem_cons_self
      obtain ⟨n2, k2⟩ := hk y hy
      have e := lex_anti _ _ h1 h2
      unfold keyOf at e
      rw [k1, k2] at e
      have e : n1 = n2 := e
      subst e
      exact keyD_inj k1 k2
    subst e
    rw [sortK_uniq h.cons_inv hl'.2 hm'.2 fun d hd => hk d (List.mem_cons_of_mem _ hd)]
/-! ## the rule -/
section
variable {X : Cx} {pins : List (Addr × Obj)} {σ : L2.St} {H : Hp} {s : Shared}
theorem item_in (I : Inv X pins σ H s) {v : V} {d : PyData} (r : Rep X.K H v d) {c : Nat} {ns : List Int} (e : itemK d = some (c, ns)) {u : Value} (ru : RelV v u) : ItemIn s.heap c u ns := by
  cases r with
  | int i =>
    cases e
    obtain ⟨t, rfl⟩ := ru
    exact .int i t
  | tup ht hr =>
    rw [itemK_tup] at e
    cases hd : intsOf _ with
    | none => rw [hd] at e; cases e
    | some ms =>
      rw [hd] at e
      cases e
      have := intsOf_reps hd hr
      subst this
      obtain rfl : u = Value.ref _ := ru
      obtain ⟨its, r1, p1, _⟩ := I.tuple ht.sq
      exact .tup p1 (Vals.ints r1)
  | _ => cases e
theorem items_in (I : Inv X pins σ H s) : ∀ {vs : List V} {ds : List PyData} {us : List Value} {cs : List Nat} {ns : List Int}, Reps X.K H vs ds → itemsK ds = some (cs, ns) → Vals vs us → ItemsIn s.heap cs us ns
  | _, _, _, _, _, .nil, e, .nil => by cases e; exact .nil
  | _, _, _, _, _, .cons r t, e, .cons ru tu => by
    unfold itemsK at e
    split at e
    · rename_i a1 a2
      cases e
      exact .cons (item_in I r a1 ru) (items_in I t a2 tu)
    · cases e
theorem key_in (I : Inv X pins σ H s) {v : V} {d : PyData} (r : Rep X.K H v d) {cs : List Nat} {ns : List Int} (e : keyD d = some (cs, ns)) : ∃ a, v = .ref a ∧ KeyIn s.heap cs (.ref a) ns := by
  cases r with
  | tup ht hr =>
    obtain ⟨its, r1, p1, _⟩ := I.tuple ht.sq
    exact ⟨_, rfl, _, its, rfl, p1, items_in I hr e r1⟩
  | _ => cases e
end
def rSortedK (K : PySem.W.Frag) : List V → Hp → VK → Prop := fun vs H Q => ∃ (a : Addr) (xs : List V) (ds : List PyData) (c : Nat) (cs : List Nat), vs = [V.ref a] ∧ SqL K H a xs ∧ Reps K H xs ds ∧ (∀ d ∈ ds, ∃ ns, keyD d = some (c :: cs, ns)) ∧
  ∀ (k : V → List Int) (ys : List V) (p : Addr), (∀ q ∈ xs.zip ds, k q.1 = keyOf q.2) → SrtO.Srtd (fun x y => HT.lexLt (k x) (k y)) ys → ys.Perm xs → H p = none → Q (.ref p) (upd H p (.lst ys))
theorem zip_reps {K : PySem.W.Frag} {H : Hp} : ∀ {xs : List V} {ds : List PyData}, Reps K H xs ds → (∀ q ∈ xs.zip ds, Rep K H q.1 q.2) ∧ (∀ x ∈ xs, ∃ d ∈ ds, (x, d) ∈ xs.zip ds)
  | _, _, .nil => ⟨fun _ h => by simp at h, fun _ h => by simp at h⟩
  | _, _, .cons (v := v) (d := d) r t => by
    obtain ⟨h1, h2⟩ := zip_reps t
    refine ⟨fun q hq => ?_, fun x hx => ?_⟩
    · rcases List.mem_cons.mp hq with rfl | hq
      · exact r
      · exact h1 q hq
    · rcases List.mem_cons.mp hx with rfl | hx
      · exact ⟨d, List.mem_cons_self, List.mem_cons_self⟩
      · obtain ⟨e, he, hz⟩ := h2 x hx
        exact ⟨e, List.mem_cons_of_mem _ he, List.mem_cons_of_mem _ hz⟩
open Classical in
noncomputable def keyV (h : Heap) (cs : List Nat) (u : Value) : List Int := if x : ∃ ns, KeyIn h cs u ns then x.choose else []
theorem keyV_eq {h : Heap} {cs : List Nat} {u : Value} {ns : List Int} (k : KeyIn h cs u ns) : keyV h cs u = ns := by
  unfold keyV
  have x : ∃ ns, KeyIn h cs u ns := ⟨ns, k⟩
  rw [dif_pos x]
  exact KeyIn.det x.choose_spec k
def fwdV : V → Value
  | .ref a => .ref a
  | _ => .none
theorem cr_sortedK {X : Cx} (hu : X.A.units + 8 < cLine) : CallR X (.builtin "sorted") (rSortedK X.K) := by
  intro pins s σ H vs us Q I r h
  obtain ⟨a, xs, ds, c, cs, rfl, hs, hr, hk, q⟩ := h
  obtain ⟨its, rv, hl, hz⟩ := I.list hs
  obtain ⟨u, rfl, ru⟩ := vals1 r
  obtain rfl : u = Value.ref a := ru
  obtain ⟨z1, z2⟩ := zip_reps hr
  have hx : ∀ x ∈ xs, ∃ t, x = V.ref t ∧ KeyIn s.heap (c :: cs) (.ref t) (keyV s.heap (c :: cs) (.ref t)) := fun x hx => by
    obtain ⟨d, hd, hq⟩ := z2 x hx
    obtain ⟨ns, e⟩ := hk d hd
    obtain ⟨t, rfl, kt⟩ := key_in I (z1 _ hq) e
    exact ⟨t, rfl, by rw [keyV_eq kt]; exact kt⟩
  obtain ⟨e1, e2⟩ := refs_back rv fun x m => by
    obtain ⟨t, e, _⟩ := hx x m
    exact ⟨t, e⟩
  refine sorted_keys (k := keyV s.heap (c :: cs)) (c := c) (cs := cs) (by show X.A.units + 1 + 1 < cLine; omega) hl.isList (by rw [← rv.length]; exact hz) (fun v hv => ?_) fun h' d out h1 h2 kp hd hn => ?_
  · obtain ⟨t, rfl⟩ := e2 v hv
    have hm : V.ref t ∈ xs := by rw [e1]; exact List.mem_map.mpr ⟨_, hv, rfl⟩
    obtain ⟨t', e, ht⟩ := hx _ hm
    cases e
    exact ht
  · have h3 : ∀ u ∈ out, ∃ a, u = Value.ref a := fun u hu => e2 u (h2.perm.mem_iff.mp hu)
    obtain ⟨n, hn⟩ := hn
    have hb : (out.map backV).Perm xs := by
      rw [e1]
      exact h2.perm.map backV
    have fb : ∀ u, (∃ a, u = Value.ref a) → fwdV (backV u) = u := fun u ⟨a, e⟩ => by rw [e]; rfl
    refine ⟨.ref d, upd H d (.lst (out.map backV)), I.laid (t' := s.toks) kp hd ⟨?_, out, n, vals_back h3, hn⟩, rfl, q (fun x => keyV s.heap (c :: cs) (fwdV x)) _ d (fun p hp => ?_) (List.pairwise_map.mpr (List.Pairwise.imp_of_mem (fun {u v} hu hv huv => ?_) h1)) hb (I.hok.fresh hd)⟩
    · rw [hb.length_eq]
      exact hz
    · obtain ⟨x, d⟩ := p
      have hd := (List.of_mem_zip hp).2
      obtain ⟨ns, e⟩ := hk d hd
      obtain ⟨t, rfl, kt⟩ := key_in I (z1 _ hp) e
      show keyV s.heap (c :: cs) (.ref t) = keyOf d
      rw [keyV_eq kt]
      unfold keyOf
      rw [e]
    · show HT.lexLt (keyV _ _ (fwdV (backV v))) (keyV _ _ (fwdV (backV u))) = false
      rw [fb v (h3 v hv), fb u (h3 u hu)]
      exact huv
theorem perm_lift {α β : Type} {f : α → β} {m : List β} {n : List β} (h : m.Perm n) : ∀ l : List α, l.map f = n → ∃ l' : List α, l'.Perm l ∧ l'.map f = m := by
  induction h with
  | nil => intro l e; exact ⟨l, .refl _, e⟩
  | cons x p ih =>
    intro l e
    cases l with
    | nil => cases e
    | cons a l =>
      have e' := List.cons.inj e
      obtain ⟨l', p1, e1⟩ := ih l e'.2
      exact ⟨a :: l', p1.cons a, by rw [List.map_cons, e1, e'.1]⟩
  | swap x y t =>
    intro l e
    match l, e with
    | [], e => cases e
    | [_], e => cases e
    | a :: b :: l, e =>
      have e1 := List.cons.inj e
      have e2 := List.cons.inj e1.2
      exact ⟨b :: a :: l, .swap _ _ _, by rw [List.map_cons, List.map_cons, e2.1, e1.1, e2.2]⟩
  | trans p q ih1 ih2 =>
    intro l e
    obtain ⟨l1, p1, e1⟩ := ih2 l e
    obtain ⟨l2, p2, e2⟩ := ih1 l1 e1
    exact ⟨l2, p2.trans p1, e2⟩
theorem reps_zip {K : PySem.W.Frag} {H : Hp} : ∀ (l : List (V × PyData)), (∀ q ∈ l, Rep K H q.1 q.2) → Reps K H (l.map (·.1)) (l.map (·.2))
  | [], _ => .nil
  | q :: l, h => .cons (h q List.mem_cons_self) (reps_zip l fun x hx => h x (List.mem_cons_of_mem _ hx))
/-- what sorted gives, as data -/
theorem sorted_data {K : PySem.W.Frag} {H : Hp} {xs ys : List V} {ds : List PyData} {cs : List Nat} {k : V → List Int} (hr : Reps K H xs ds) (hk : ∀ d ∈ ds, ∃ ns, keyD d = some (cs, ns)) (hq : ∀ q ∈ xs.zip ds, k q.1 = keyOf q.2)
    (hs : SrtO.Srtd (fun x y => HT.lexLt (k x) (k y)) ys) (hp : ys.Perm xs) : Reps K H ys (sortK ds) := by
  obtain ⟨z1, _⟩ := zip_reps hr
  have e1 : (xs.zip ds).map (·.1) = xs := List.map_fst_zip (by rw [hr.length]; exact Nat.le_refl _)
  have e2 : (xs.zip ds).map (·.2) = ds := List.map_snd_zip (by rw [hr.length]; exact Nat.le_refl _)
  obtain ⟨l, pl, el⟩ := perm_lift hp (xs.zip ds) e1
  have rl : Reps K H ys (l.map (·.2)) := by
    rw [← el]
    exact reps_zip l fun q hq' => z1 q (pl.mem_iff.mp hq')
  have pd : (l.map (·.2)).Perm ds := by
    have := pl.map (fun q : V × PyData => q.2)
    rw [e2] at this
    exact this
  have sd : (l.map (·.2)).Pairwise KLe := by
    rw [← el] at hs
    refine List.pairwise_map.mpr (List.Pairwise.imp_of_mem (fun {a b} ha hb hab => ?_) (List.pairwise_map.mp hs))
    have ka := hq a (pl.mem_iff.mp ha)
    have kb := hq b (pl.mem_iff.mp hb)
    show HT.lexLt (keyOf b.2) (keyOf a.2) = false
    rw [← ka, ← kb]
    exact hab
  rw [← sortK_uniq (pd.trans (sortK_perm ds).symm) sd (sortK_sorted ds) fun d hd => hk d (pd.mem_iff.mp hd)]
  exact rl
theorem keysOk_all {ds : List PyData} (h : keysOk ds = true) : ∃ c cs, ∀ d ∈ ds, ∃ ns, keyD d = some (c :: cs, ns) := by
  cases ds with
  | nil => cases h
  | cons d ds =>
    have h : shapeAll (d :: ds) (keyD d) = true := h
    cases hk : keyD d with
    | none => rw [hk] at h; cases h
    | some p =>
      obtain ⟨cs, ns⟩ := p
      rw [hk] at h
      cases cs with
      | nil => cases h
      | cons c cs =>
        have h' : ((d :: ds).all fun e => decide ((keyD e).map (·.1) = some (c :: cs))) = true := h
        refine ⟨c, cs, fun e he => ?_⟩
        have := of_decide_eq_true (List.all_eq_true.mp h' e he)
        cases hk2 : keyD e with
        | none => rw [hk2] at this; cases this
        | some p =>
          rw [hk2] at this
          have e1 : p.1 = c :: cs := by simpa using this
          exact ⟨p.2, by rw [← e1]⟩
/-! ## sorted of tuples of any shape that are alike -/
mutual
def pln : PyData → Bool
  | .int _ => true
  | .bool _ => true
  | .tuple ds => plnL ds
  | _ => false
def plnL : List PyData → Bool
  | [] => true
  | d :: ds => pln d && plnL ds
end
def tupNE : PyData → Bool
  | .tuple (_ :: _) => true
  | _ => false
def okA (ds : List PyData) : Bool := ds.all fun d => pln d && tupNE d && decide (d.depth ≤ 8) && ds.all (PySem.W.alike d)
def sortA (ds : List PyData) : List PyData := ds.mergeSort (PySem.W.dataLe false id)
mutual
theorem rep_reads {X : Cx} {pins : List (Addr × Obj)} {σ : L2.St} {H : Hp} {s : Shared} (I : Inv X pins σ H s) : ∀ (d : PyData) (v : V) (u : Value), pln d = true → Rep X.K H v d → RelV v u → ∃ as, Reads s.heap u d as
  | .int i, v, u, _, r, ru => by
    cases r
    obtain ⟨t, rfl⟩ := ru
    exact ⟨_, .int i t⟩
  | .bool b, v, u, _, r, ru => by
    cases r
    obtain rfl : u = Value.bool b := ru
    exact ⟨_, .bool b⟩
  | .tuple ds, v, u, hp, r, ru => by
    cases r with
    | tup ht hr =>
      obtain rfl : u = Value.ref _ := ru
      obtain ⟨its, r1, p1, _⟩ := I.tuple ht.sq
      obtain ⟨o, ho, hc, n, hd⟩ := p1
      rw [pln] at hp
      obtain ⟨as, q⟩ := reps_reads I ds _ its hp hr r1
      exact ⟨as, .tuple ho hc hd q⟩
  | .none, _, _, h, _, _ => by simp [pln] at h
  | .str _, _, _, h, _, _ => by simp [pln] at h
  | .list _, _, _, h, _, _ => by simp [pln] at h
  | .dict _, _, _, h, _, _ => by simp [pln] at h
theorem reps_reads {X : Cx} {pins : List (Addr × Obj)} {σ : L2.St} {H : Hp} {s : Shared} (I : Inv X pins σ H s) : ∀ (ds : List PyData) (vs : List V) (us : List Value), plnL ds = true → Reps X.K H vs ds → Vals vs us → ∃ as, ReadsAll s.heap us ds as
  | [], _, _, _, r, ru => by
    cases r
    cases ru
    exact ⟨_, .nil⟩
  | d :: ds, _, _, hp, r, ru => by
    rw [plnL, Bool.and_eq_true] at hp
    cases r with
    | cons r t =>
      cases ru with
      | cons ru tu =>
        obtain ⟨as, q⟩ := rep_reads I d _ _ hp.1 r ru
        obtain ⟨bs, q2⟩ := reps_reads I ds _ _ hp.2 t tu
        exact ⟨_, .cons q q2⟩
end
def rSortedA (K : PySem.W.Frag) : List V → Hp → VK → Prop := fun vs H Q => ∃ (a : Addr) (xs : List V) (ds : List PyData), vs = [V.ref a] ∧ SqL K H a xs ∧ Reps K H xs ds ∧ okA ds = true ∧
  ∀ (ys : List V) (p : Addr), (∃ l : List (V × PyData), (∀ q ∈ l, q ∈ xs.zip ds) ∧ l.map (·.1) = ys ∧ l.map (·.2) = sortA ds) → H p = none → Q (.ref p) (upd H p (.lst ys))
theorem each_vals : ∀ {us : List Value} {l : List (V × PyData)}, PySem.W.EachIs (fun u (q : V × PyData) => RelV q.1 u) us l → Vals (l.map (·.1)) us
  | _, _, .nil => .nil
  | _, _, .cons h t => .cons h (each_vals t)
theorem vals_each : ∀ {xs : List V} {us : List Value} {ds : List PyData}, Vals xs us → xs.length = ds.length → PySem.W.EachIs (fun u (q : V × PyData) => RelV q.1 u) us (xs.zip ds)
  | _, _, [], .nil, _ => .nil
  | _, _, _ :: _, .nil, h => by simp at h
  | _, _, [], .cons _ _, h => by simp at h
  | _, _, d :: ds, .cons r t, h => .cons r (vals_each t (by simpa using h))
theorem each_reads {X : Cx} {pins : List (Addr × Obj)} {σ : L2.St} {H : Hp} {s : Shared} (I : Inv X pins σ H s) : ∀ {xs : List V} {us : List Value} {ds : List PyData}, Vals xs us → Reps X.K H xs ds → (∀ d ∈ ds, pln d = true) → PySem.W.EachIs (fun u (q : V × PyData) => ∃ as, Reads s.heap u q.2 as) us (xs.zip ds)
  | _, _, _, .nil, .nil, _ => .nil
  | _, _, _, .cons r t, .cons q u, h => .cons (rep_reads I _ _ _ (h _ List.mem_cons_self) q r) (each_reads I t u fun d hd => h d (List.mem_cons_of_mem _ hd))
theorem cr_sortedA {X : Cx} (hu : X.A.units + 20 < cLine) : CallR X (.builtin "sorted") (rSortedA X.K) := by
  intro pins s σ H vs us Q I r h
  obtain ⟨a, xs, ds, rfl, hs, hr, hk, q⟩ := h
  obtain ⟨its, rv, hl, hz⟩ := I.list hs
  obtain ⟨u, rfl, ru⟩ := vals1 r
  obtain rfl : u = Value.ref a := ru
  have hlen := hr.length
  have hk' : ∀ d ∈ ds, pln d = true ∧ tupNE d = true ∧ d.depth ≤ 8 ∧ ∀ e ∈ ds, PySem.W.alike d e = true := fun d hd => by
    have := List.all_eq_true.mp hk d hd
    simp only [Bool.and_eq_true, decide_eq_true_eq, List.all_eq_true] at this
    exact ⟨this.1.1.1, this.1.1.2, this.1.2, this.2⟩
  have e2 : (xs.zip ds).map (·.2) = ds := List.map_snd_zip (by rw [hlen]; exact Nat.le_refl _)
  refine PySem.W.sorted_data (R := fun u (q : V × PyData) => RelV q.1 u) (bs := xs.zip ds) (enc := fun q => q.2) hl.isList (vals_each rv hlen) (each_reads I rv hr fun d hd => (hk' d hd).1) ?_ ?_ ?_ ?_ fun out ho eo => ?_
  · rw [e2]; exact fun d hd e he => (hk' d hd).2.2.2 e he
  · rw [e2]
    refine .inl fun d hd => ?_
    have := (hk' d hd).2.1
    unfold tupNE at this
    split at this
    · exact ⟨_, _, rfl⟩
    · cases this
  · rw [List.length_zip]; omega
  · intro b hb
    have : b.2 ∈ ds := by rw [← e2]; exact List.mem_map.mpr ⟨b, hb, rfl⟩
    have := (hk' _ this).2.2.1
    show X.A.units + 2 + b.2.depth < cLine
    omega
  · have hp : ((xs.zip ds).mergeSort (PySem.W.dataLe false fun q : V × PyData => q.2)).Perm (xs.zip ds) := List.mergeSort_perm _ _
    have hm : ((xs.zip ds).mergeSort (PySem.W.dataLe false fun q : V × PyData => q.2)).map (·.2) = sortA ds := by
      unfold sortA
      refine (List.map_mergeSort (f := fun q : V × PyData => q.2) (s := PySem.W.dataLe false id) (fun a _ b _ => ?_)).trans (by rw [e2])
      rfl
    have hv := each_vals eo
    obtain ⟨n, hn⟩ := PyProof.Rows.sortedAll_at s.heap its out.toArray
    have hd : s.heap.objs.size ≤ s.heap.objs.size + 1 := Nat.le_succ _
    refine ⟨.ref (s.heap.objs.size + 1), upd H (s.heap.objs.size + 1) (.lst (((xs.zip ds).mergeSort (PySem.W.dataLe false fun q : V × PyData => q.2)).map (·.1))), I.laid (t' := s.toks) (fun b o e => PyProof.Rows.sortedAll_old e) hd ⟨?_, out, n, hv, hn⟩, rfl, q _ _ ⟨_, fun p hp' => hp.mem_iff.mp hp', rfl, hm⟩ (I.hok.fresh hd)⟩
    rw [List.length_map, hp.length_eq, List.length_zip]
    omega
theorem zip_rep {K : PySem.W.Frag} {H : Hp} {xs ys : List V} {ds : List PyData} (hr : Reps K H xs ds) (h : ∃ l : List (V × PyData), (∀ q ∈ l, q ∈ xs.zip ds) ∧ l.map (·.1) = ys ∧ l.map (·.2) = sortA ds) : Reps K H ys (sortA ds) := by
  obtain ⟨l, h1, rfl, h2⟩ := h
  rw [← h2]
  exact reps_zip l fun q hq => (zip_reps hr).1 q (h1 q hq)
theorem sortA_perm (ds : List PyData) : (sortA ds).Perm ds := List.mergeSort_perm _ _
end PyI

namespace PyI
open PySem PySem.Spec L2 PyProof.Rows

/-! # dicts: keys are ints and texts, or tuples of ints, bools, None and such tuples -/
theorem keyed_tail {k : NestedKey} {ks : List NestedKey} : (NestedKey.tup (k :: ks)).depth = max k.depth (NestedKey.depthAll ks) + 1 := by
  simp [NestedKey.depth, NestedKey.depthAll]
section
variable {X : Cx} {pins : List (Addr × Obj)} {σ : L2.St} {H B : Hp} {s : Shared}
mutual
theorem nk_is (I : L2.Inv X pins σ H s) (sB : Same B H) : ∀ {v : V} {d : PyData} {k : NestedKey} {u : Value}, Rep X.K B v d → nkOf d = some k → RelV v u → NestedIs s.heap k u
  | _, _, k, u, .non, h, r => by
    simp only [nkOf] at h; cases h
    obtain rfl : u = Value.none := r
    exact .none
  | _, _, k, u, .bl b, h, r => by
    simp only [nkOf] at h; cases h
    obtain rfl : u = Value.bool b := r
    exact .bool rfl
  | _, _, k, u, .int i, h, r => by
    simp only [nkOf] at h; cases h
    obtain ⟨t, rfl⟩ := r
    exact .int _ t
  | _, _, k, u, .str x, h, r => by simp [nkOf] at h
  | _, _, k, u, .lst _ _, h, r => by simp [nkOf] at h
  | _, _, k, u, .dK _ _ _, h, r => by simp [nkOf] at h
  | _, _, k, u, .dN _ _ _ _ _, h, r => by simp [nkOf] at h
  | _, _, k, u, .tup (a := a) (xs := xs) (ds := ds) hs rs, h, r => by
    simp only [nkOf] at h
    cases hk : nksOf ds with
    | none => rw [hk] at h; cases h
    | some ks =>
      rw [hk] at h; cases h
      obtain rfl : u = Value.ref a := r
      obtain ⟨its, rv, p, _⟩ := I.tuple (same_seqT sB hs.sq)
      obtain ⟨o, h1, h2, n, h3⟩ := p
      exact .tup h1 h2 h3 (nks_is I sB rs hk rv)
theorem nks_is (I : L2.Inv X pins σ H s) (sB : Same B H) : ∀ {vs : List V} {ds : List PyData} {ks : List NestedKey} {us : List Value}, Reps X.K B vs ds → nksOf ds = some ks → Vals vs us → NestedAll s.heap ks us
  | _, _, ks, us, .nil, h, r => by
    simp only [nksOf] at h; cases h
    cases r
    exact .nil
  | _, _, ks, us, .cons (d := d) (ds := ds) h1 t, h, r => by
    simp only [nksOf] at h
    cases hk : nkOf d with
    | none => rw [hk] at h; cases h
    | some k =>
      cases hks : nksOf ds with
      | none => rw [hk, hks] at h; cases h
      | some ks' =>
        rw [hk, hks] at h; cases h
        cases r with
        | cons r1 r2 => exact .cons (nk_is I sB h1 hk r1) (nks_is I sB t hks r2)
end
/-- the hash of such a key does not hang on the world -/
theorem hash_any (w w' : World) : ∀ (n : Nat), (∀ (d : PyData) (k : NestedKey), sizeOf d < n → nkOf d = some k → k.hash w = k.hash w') ∧ ∀ (ds : List PyData) (ks : List NestedKey), sizeOf ds < n → nksOf ds = some ks → NestedKey.hashes w ks = NestedKey.hashes w' ks
  | 0 => ⟨fun _ _ h => absurd h (Nat.not_lt_zero _), fun _ _ h => absurd h (Nat.not_lt_zero _)⟩
  | n + 1 => by
    obtain ⟨i1, i2⟩ := hash_any w w' n
    refine ⟨fun d k hn h => ?_, fun ds ks hn h => ?_⟩
    · cases d with
      | none => simp only [nkOf] at h; cases h; simp [NestedKey.hash]
      | bool b => simp only [nkOf] at h; cases h; simp [NestedKey.hash]
      | int i => simp only [nkOf] at h; cases h; simp [NestedKey.hash]
      | tuple ds =>
        simp only [nkOf] at h
        cases hk : nksOf ds with
        | none => rw [hk] at h; cases h
        | some ks =>
          rw [hk] at h; cases h
          have := i2 ds ks (by simp at hn; omega) hk
          simp only [NestedKey.hash, this]
      | str _ => simp [nkOf] at h
      | list _ => simp [nkOf] at h
      | dict _ => simp [nkOf] at h
    · cases ds with
      | nil => simp only [nksOf] at h; cases h; simp [NestedKey.hashes]
      | cons d ds =>
        simp only [nksOf] at h
        cases hk : nkOf d with
        | none => rw [hk] at h; cases h
        | some k =>
          cases hks : nksOf ds with
          | none => rw [hk, hks] at h; cases h
          | some ks' =>
            rw [hk, hks] at h; cases h
            have e1 := i1 d k (by simp at hn; omega) hk
            have e2 := i2 ds ks' (by simp at hn; omega) hks
            simp only [NestedKey.hashes, e1, e2]
theorem dk_hash {d : PyData} {k : NestedKey} (h : dkOf d = some (.n k)) (w w' : World) : k.hash w = k.hash w' := by
  cases d with
  | tuple ds =>
    simp only [dkOf, dkTup] at h
    split at h
    · rename_i ks hk
      split at h
      · cases h
        exact ((hash_any w w' (sizeOf (PyData.tuple ds) + 1)).1 (.tuple ds) (.tup ks) (Nat.lt_succ_self _) (by simp [nkOf, hk]))
      · cases h
    · cases h
  | _ => simp [dkOf] at h
/-- what a key is in the heap -/
theorem dk_k {v : V} {d : PyData} {q : Key} (r : Rep X.K B v d) (h : dkOf d = some (.k q)) : v = kV q := by
  cases r with
  | int i => simp only [dkOf] at h; cases h; rfl
  | str x => simp only [dkOf] at h; cases h; rfl
  | tup _ _ =>
    simp only [dkOf, dkTup] at h
    split at h
    · split at h <;> cases h
    · cases h
  | _ => simp [dkOf] at h
theorem dk_n (I : L2.Inv X pins σ H s) (sB : Same B H) {v : V} {d : PyData} {q : NestedKey} (r : Rep X.K B v d) (h : dkOf d = some (.n q)) : ∃ b, v = .ref b ∧ (nestedKind X.prog X.w).is s.heap q b := by
  have hd : ∃ ds ks, d = .tuple ds ∧ nksOf ds = some ks ∧ q = .tup ks ∧ (NestedKey.tup ks).depth ≤ 8 := by
    cases d with
    | tuple ds =>
      simp only [dkOf, dkTup] at h
      split at h
      · rename_i ks hk
        split at h
        · rename_i hd
          cases h
          exact ⟨ds, ks, rfl, hk, rfl, hd⟩
        · cases h
      · cases h
    | _ => simp [dkOf] at h
  obtain ⟨ds, ks, rfl, hk, rfl, hdp⟩ := hd
  have hr : ∃ b, v = .ref b := by cases r; exact ⟨_, rfl⟩
  obtain ⟨b, rfl⟩ := hr
  exact ⟨b, rfl, nk_is I sB r (by simp [nkOf, hk]) rfl, hdp⟩

/-! ## the entries -/
def zipU : List (NestedKey × Addr × V) → List Value → List (NestedKey × Addr × Value)
  | x :: xs, u :: us => (x.1, x.2.1, u) :: zipU xs us
  | _, _ => []
theorem zipU_ents {P : Program} {w : World} : ∀ (xs : List (NestedKey × Addr × V)) (us : List Value), (zipU xs us).map (entryOfKey (nestedKind P w)) = entsN w xs us
  | [], _ => by simp [zipU, entsN]
  | _ :: _, [] => by simp [zipU, entsN]
  | x :: xs, u :: us => by
    simp only [zipU, entsN, List.map_cons, zipU_ents xs us]
    rfl
theorem zipU_keys : ∀ (xs : List (NestedKey × Addr × V)) (us : List Value), us.length = xs.length → (zipU xs us).map (·.1) = xs.map (·.1)
  | [], _, _ => by simp [zipU]
  | _ :: _, [], h => by simp at h
  | x :: xs, u :: us, h => by
    simp only [zipU, List.map_cons]
    rw [zipU_keys xs us (by simpa using h)]
theorem zipU_mem : ∀ (xs : List (NestedKey × Addr × V)) (us : List Value) (z : NestedKey × Addr × Value), z ∈ zipU xs us → ∃ x ∈ xs, x.1 = z.1 ∧ x.2.1 = z.2.1
  | [], _, z, h => by simp [zipU] at h
  | _ :: _, [], z, h => by simp [zipU] at h
  | x :: xs, u :: us, z, h => by
    simp only [zipU, List.mem_cons] at h
    rcases h with rfl | h
    · exact ⟨x, List.mem_cons_self, rfl, rfl⟩
    · obtain ⟨y, h1, h2⟩ := zipU_mem xs us z h
      exact ⟨y, List.mem_cons_of_mem _ h1, h2⟩
def lookN (xs : List (NestedKey × Addr × V)) (k : NestedKey) : Option V := (xs.find? fun x => decide (x.1 = k)).map (·.2.2)
theorem zipU_look (k : NestedKey) : ∀ (xs : List (NestedKey × Addr × V)) (us : List Value), Vals (xs.map (·.2.2)) us → RelO (lookN xs k) ((atKey (zipU xs us) k).map (·.2))
  | [], us, h => by cases h; exact True.intro
  | x :: xs, us, h => by
    cases h with
    | @cons _ u _ us r t =>
      by_cases e : x.1 = k
      · simp [lookN, atKey, zipU, e]; exact r
      · have := zipU_look k xs us t
        simp only [lookN, atKey, zipU, List.find?_cons, e, decide_false]
        exact this
/-- a tuple-keyed dict in the heap -/
theorem dn_at (I : L2.Inv X pins σ H s) (sB : Same B H) {a : Addr} {xs : List (NestedKey × Addr × V)} {ps : List (PyData × PyData)} (e : H a = some (.ext (DNok a xs)))
    (hk : ps.map (fun p => dkOf p.1) = xs.map (fun x => some (DK.n x.1))) (rk : Reps X.K B (xs.map fun x => V.ref x.2.1) (ps.map (·.1))) :
    ∃ us, Vals (xs.map (·.2.2)) us ∧ s.heap.DictOfH (nestedKind X.prog X.w) a (zipU xs us) ∧ (a == sysModules) = false ∧ xs.length ≤ sizeLine := by
  obtain ⟨hl, hd, us, rv, o, es, ep, h1, h2, h3, h4, h5⟩ := (show ObjOk X.prog X.w H s.heap a (.ext (DNok a xs)) from I.hok a _ e).1
  have hlen : us.length = xs.length := by have := rv.length; rw [List.length_map] at this; omega
  refine ⟨us, rv, ⟨o, es, ep, h1, h2, h3, by rw [zipU_ents]; exact h4 _, fun z hz => ?_, by rw [zipU_keys xs us hlen]; exact h5⟩, hd, hl⟩
  obtain ⟨x, hx, e1, e2⟩ := zipU_mem xs us z hz
  obtain ⟨i, hi, hxi⟩ := List.getElem_of_mem hx
  have lp : ps.length = xs.length := by have := congrArg List.length hk; simpa using this
  have hp : i < ps.length := by omega
  have k1 : dkOf ps[i].1 = some (.n x.1) := by
    have := congrArg (fun l => l[i]?) hk
    simp [hp, hi, hxi] at this
    exact this
  obtain ⟨v, hv, rv2⟩ := rk.get (i := i) (d := ps[i].1) (by simp [hp])
  have ev : v = .ref x.2.1 := by
    simp [hi] at hv
    rw [← hv, hxi]
  subst ev
  obtain ⟨b, eb, is⟩ := dk_n I sB rv2 k1
  cases eb
  rw [← e1, ← e2]
  exact is
/-- the empty dict is a dict of tuples, too -/
theorem dk_nil (I : L2.Inv X pins σ H s) {a : Addr} (e : H a = some (.dK [])) : s.heap.DictOfH (nestedKind X.prog X.w) a [] ∧ (a == sysModules) = false := by
  obtain ⟨z, hd, vs, rel, dd⟩ := dk_of I.hok e
  cases rel
  obtain ⟨o, es, ep, h1, h2, h3, h4, h5, h6⟩ := dd
  have he : es.toList = [] := by
    have := h5.length
    simpa using this
  exact ⟨⟨o, es, ep, h1, h2, h3, by rw [he]; rfl, fun x hx => by simp at hx, List.nodup_nil⟩, hd⟩
end

/-! ## look-ups by data -/
def OptRep (K : PySem.W.Frag) (B : Hp) : Option V → Option PyData → Prop
  | some v, some d => Rep K B v d
  | none, none => True
  | _, _ => False
section
variable {K : PySem.W.Frag} {B : Hp}
theorem look_k (q : Key) : ∀ {kvs : List (Key × V)} {ps : List (PyData × PyData)}, ps.map (fun p => dkOf p.1) = kvs.map (fun p => some (DK.k p.1)) → Reps K B (kvs.map (·.2)) (ps.map (·.2)) → OptRep K B (valV kvs q) (lookP ps (.k q))
  | [], [], _, _ => True.intro
  | [], _ :: _, h, _ => by simp at h
  | _ :: _, [], h, _ => by simp at h
  | x :: kvs, p :: ps, h, r => by
    simp only [List.map_cons, List.cons.injEq] at h
    rw [List.map_cons, List.map_cons] at r
    cases r with
    | cons r1 r2 =>
      have ih := look_k q h.2 r2
      by_cases e : x.1 = q
      · have e1 : valV (x :: kvs) q = some x.2 := valV_pos e
        have e2 : lookP (p :: ps) (.k q) = some p.2 := by simp [lookP, h.1, e]
        rw [e1, e2]; exact r1
      · have e1 : valV (x :: kvs) q = valV kvs q := valV_neg e
        have e2 : lookP (p :: ps) (.k q) = lookP ps (.k q) := by simp [lookP, h.1, e]
        rw [e1, e2]; exact ih
theorem look_n (q : NestedKey) : ∀ {xs : List (NestedKey × Addr × V)} {ps : List (PyData × PyData)}, ps.map (fun p => dkOf p.1) = xs.map (fun p => some (DK.n p.1)) → Reps K B (xs.map (·.2.2)) (ps.map (·.2)) → OptRep K B (lookN xs q) (lookP ps (.n q))
  | [], [], _, _ => True.intro
  | [], _ :: _, h, _ => by simp at h
  | _ :: _, [], h, _ => by simp at h
  | x :: kvs, p :: ps, h, r => by
    simp only [List.map_cons, List.cons.injEq] at h
    rw [List.map_cons, List.map_cons] at r
    cases r with
    | cons r1 r2 =>
      have ih := look_n q h.2 r2
      by_cases e : x.1 = q
      · have e1 : lookN (x :: kvs) q = some x.2.2 := by simp [lookN, e]
        have e2 : lookP (p :: ps) (.n q) = some p.2 := by simp [lookP, h.1, e]
        rw [e1, e2]; exact r1
      · have e1 : lookN (x :: kvs) q = lookN kvs q := by simp [lookN, e]
        have e2 : lookP (p :: ps) (.n q) = lookP ps (.n q) := by simp [lookP, h.1, e]
        rw [e1, e2]; exact ih
theorem kind_k {q : DK} {kvs : List (Key × V)} {ps : List (PyData × PyData)} (h : ps.map (fun p => dkOf p.1) = kvs.map (fun p => some (DK.k p.1))) (k : kindOk ps q = true) : (∃ q', q = .k q') ∨ (∃ q', q = .n q' ∧ ps = [] ∧ kvs = []) := by
  cases q with
  | k q' => exact .inl ⟨q', rfl⟩
  | n q' =>
    refine .inr ⟨q', rfl, ?_⟩
    cases ps with
    | nil => cases kvs with
      | nil => exact ⟨rfl, rfl⟩
      | cons _ _ => simp at h
    | cons p ps => cases kvs with
      | nil => simp at h
      | cons x kvs =>
        simp only [List.map_cons, List.cons.injEq] at h
        simp [kindOk, h.1, isN] at k
theorem kind_n {q : DK} {xs : List (NestedKey × Addr × V)} {ps : List (PyData × PyData)} (n : xs ≠ []) (h : ps.map (fun p => dkOf p.1) = xs.map (fun p => some (DK.n p.1))) (k : kindOk ps q = true) : ∃ q', q = .n q' := by
  cases q with
  | n q' => exact ⟨q', rfl⟩
  | k q' =>
    cases ps with
    | nil => cases xs with
      | nil => exact absurd rfl n
      | cons _ _ => simp at h
    | cons p ps => cases xs with
      | nil => exact absurd rfl n
      | cons x kvs =>
        simp only [List.map_cons, List.cons.injEq] at h
        simp [kindOk, h.1, isN] at k
theorem OptRep.isSome {o : Option V} {p : Option PyData} (h : OptRep K B o p) : o.isSome = p.isSome := by
  cases o <;> cases p <;> first | rfl | exact h.elim
end
section
variable {X : Cx}
/-- a dict as an operation sees it -/
def DRep (K : PySem.W.Frag) (B H : Hp) (v : V) (ps : List (PyData × PyData)) : Prop := ∃ a, v = .ref a ∧
    ((∃ kvs, H a = some (.dK kvs) ∧ ps.map (fun p => dkOf p.1) = kvs.map (fun p => some (DK.k p.1)) ∧ Reps K B (kvs.map (·.2)) (ps.map (·.2))) ∨
     ∃ xs, xs ≠ [] ∧ H a = some (.ext (DNok a xs)) ∧ ps.map (fun p => dkOf p.1) = xs.map (fun x => some (DK.n x.1)) ∧ Reps K B (xs.map fun x => V.ref x.2.1) (ps.map (·.1)) ∧ Reps K B (xs.map (·.2.2)) (ps.map (·.2)))
theorem getP_some {ps : List (PyData × PyData)} {d : PyData} {r : Option PyData} (h : getP ps d = some r) : ∃ q, dkOf d = some q ∧ kindOk ps q = true ∧ r = lookP ps q := by
  unfold getP at h
  split at h
  · rename_i q hq
    split at h
    · rename_i hk; cases h; exact ⟨q, hq, hk, rfl⟩
    · cases h
  · cases h
/-- what the heap holds at a key: by int or text, by tuple, of an empty dict -/
theorem d_cases {pins : List (Addr × Obj)} {σ : L2.St} {H B : Hp} {s : Shared} (I : L2.Inv X pins σ H s) (sB : Same B H) {x y : V} {d : PyData} {ps : List (PyData × PyData)} {r : Option PyData}
    (hx : RepO X.K B H x d) (hy : DRep X.K B H y ps) (g : getP ps d = some r) :
    (∃ o, DGet H (match y with | .ref a => a | _ => 0) x o ∧ OptRep X.K B o r ∧ ∃ a, y = .ref a) ∨
    (∃ a b k zs, y = .ref a ∧ x = .ref b ∧ (nestedKind X.prog X.w).is s.heap k b ∧ s.heap.DictOfH (nestedKind X.prog X.w) a zs ∧ (a == sysModules) = false ∧
      ∃ o, RelO o ((atKey zs k).map (·.2)) ∧ OptRep X.K B o r) := by
  obtain ⟨q, hq, hk, rfl⟩ := getP_some g
  obtain ⟨a, rfl, hd⟩ := hy
  have rx : Rep X.K B x d := by
    rcases hx with h | ⟨_, _, c, _, e, _⟩
    · exact h
    · subst e
      cases c <;> simp [cD, dkOf] at hq
  rcases hd with ⟨kvs, e, k1, rv⟩ | ⟨xs, n, e, k1, rk, rv⟩
  · rcases kind_k k1 hk with ⟨q', rfl⟩ | ⟨q', rfl, rfl, rfl⟩
    · have ex := dk_k rx hq
      subst ex
      exact .inl ⟨_, DGet.k e, look_k q' k1 rv, a, rfl⟩
    · obtain ⟨b, rfl, is⟩ := dk_n I sB rx hq
      obtain ⟨h1, h2⟩ := dk_nil I e
      exact .inr ⟨a, b, q', [], rfl, rfl, is, h1, h2, none, True.intro, True.intro⟩
  · obtain ⟨q', rfl⟩ := kind_n n k1 hk
    obtain ⟨b, rfl, is⟩ := dk_n I sB rx hq
    obtain ⟨us, ru, h1, h2, h3⟩ := dn_at I sB e k1 rk
    exact .inr ⟨a, b, q', zipU xs us, rfl, rfl, is, h1, h2, _, zipU_look q' xs us ru, look_n q' k1 rv⟩
theorem RepO.dicD {K : PySem.W.Frag} {B H : Hp} {v : V} {ps : List (PyData × PyData)} (s : Same B H) (h : RepO K B H v (.dict ps)) : DRep K B H v ps := h.dicV s
theorem nroom (hu : X.A.units + 65 < cLine) : (nestedKind X.prog X.w).room X.A.in1 := by
  show X.A.units + 1 + 8 < cLine
  omega
/-- d in ps, d not in ps -/
def rInD (K : PySem.W.Frag) (neg : Bool) : R2 := fun x y H Q => ∃ B d ps r, Same B H ∧ RepO K B H x d ∧ DRep K B H y ps ∧ getP ps d = some r ∧ Q (.bl (neg != r.isSome)) H
theorem op_inDic (hu : X.A.units + 65 < cLine) (neg : Bool) : OpR X (compareOp (if neg = true then .NotIn else .In)) (rInD X.K neg) := by
  intro pins s σ H x y v u Q I rx ry h
  obtain ⟨B, d, ps, r, sB, hx, hy, g, q⟩ := h
  rcases d_cases I sB hx hy g with ⟨o, dg, ro, a, rfl⟩ | ⟨a, b, k, zs, rfl, rfl, is, hm, hd, o, r1, r2⟩
  · obtain rfl : u = Value.ref a := ry
    rw [← ro.isSome] at q
    cases neg with
    | false => exact d_in (by omega) I dg rx fun s' I' => ⟨.bl o.isSome, H, I', rfl, by rw [Bool.false_bne] at q; exact q⟩
    | true => exact d_notIn (by omega) I dg rx fun s' I' => ⟨.bl (!o.isSome), H, I', rfl, by rw [Bool.true_bne] at q; exact q⟩
  · obtain rfl : u = Value.ref a := ry
    obtain rfl : v = Value.ref b := rx
    have e1 : (atKey zs k).isSome = r.isSome := by
      have := r1.isSome_eq
      rw [Option.isSome_map] at this
      rw [← this, r2.isSome]
    cases neg with
    | false =>
      refine wpAny_in_heap (nroom hu) is hd hm ⟨.bl (atKey zs k).isSome, H, I.tok _, rfl, ?_⟩
      rw [Bool.false_bne] at q
      rw [e1]; exact q
    | true =>
      refine wpAny_notIn_heap (nroom hu) is hd hm ⟨.bl (!(atKey zs k).isSome), H, I.tok _, rfl, ?_⟩
      rw [Bool.true_bne] at q
      rw [e1]; exact q
/-- ps[d] -/
def rIxD (K : PySem.W.Frag) : R2 := fun x y H Q => ∃ B d ps r, Same B H ∧ RepO K B H y d ∧ DRep K B H x ps ∧ getP ps d = some (some r) ∧ ∀ v, Rep K B v r → Q v H
theorem ix_dic (hu : X.A.units + 65 < cLine) : IxR X (rIxD X.K) := by
  intro value slice pins s σ H x y v u Q I rx ry h hs
  obtain ⟨B, d, ps, r, sB, hy, hx, g, q⟩ := h
  have key : ∃ a, x = .ref a ∧ s.TypeIs (.ref a) "dict" ∧ ∀ (A : Around) (hA : A.units ≤ X.A.units), wpAny (model X.prog X.w) A (getItem (.ref a) u) (EP X pins σ Q) X.xe s := by
    rcases d_cases I sB hy hx g with ⟨o, dg, ro, a, rfl⟩ | ⟨a, b, k, zs, rfl, rfl, is, hm, hd, o, r1, r2⟩
    · cases o with
      | none => exact ro.elim
      | some z => exact ⟨a, rfl, dict_typeIs I dg, fun A hA => d_getItem (by omega) I dg ry fun w' s' I' rw' => ⟨z, H, I', rw', q z ro⟩⟩
    · cases o with
      | none => exact r2.elim
      | some z =>
        obtain rfl : u = Value.ref b := ry
        cases hp : atKey zs k with
        | none => rw [hp] at r1; exact r1.elim
        | some p =>
          rw [hp] at r1
          refine ⟨a, rfl, hm.typeIs, fun A hA => wpAny_getItem_heap (show A.units + 1 + 8 < cLine by omega) is hm hp ⟨z, H, I.tok _, r1, q z r2⟩⟩
  obtain ⟨a, rfl, hT, hg⟩ := key
  obtain rfl : v = Value.ref a := rx
  have fin : wpAny (model X.prog X.w) X.A (subscripted slice false (.ref a) u) (fun r s₃ => wpAny (model X.prog X.w) X.A (letTemporaryGo value (.ref a) r >>= fun _ => pure r) (EP X pins σ Q) X.xe s₃) X.xe s := by
    rw [hs]; exact wpAny_operating (wpAny_mono (hg _ (by simp)) (fun z t hz => wpAny_bind (wpAny_letTemporaryGo (wpAny_pure hz))) fun _ _ z => z)
  unfold subscriptTail; refine wpAny_bind ?_
  rw [getitemInPython_of_ne hT.not_modules]; refine wpAny_bind (wpAny_specialOf hT PySem.F.slot_dict_getitem.lookup ?_)
  first | exact wpAny_bind fin | exact wpAny_pure (wpAny_bind fin) | exact wpAny_bind (wpAny_pure (wpAny_bind fin))
/-- the entries of a dict, one by one -/
theorem dic_raw {pins : List (Addr × Obj)} {σ : L2.St} {H B : Hp} {s : Shared} (I : L2.Inv X pins σ H s) (sB : Same B H) {y : V} {ps : List (PyData × PyData)} (hy : DRep X.K B H y ps) :
    ∃ (a : Addr) (es : Array DictEntry) (ep : Nat) (ks : List V), y = .ref a ∧ (a == sysModules) = false ∧ s.heap.DictRaw a es ep ∧ es.size = ps.length ∧ ps.length ≤ sizeLine ∧ Reps X.K B ks (ps.map (·.1)) ∧ ∀ (i : Nat) (hi : i < es.size), ∃ v, ks[i]? = some v ∧ RelV v es[i].key := by
  obtain ⟨a, rfl, hd⟩ := hy
  rcases hd with ⟨kvs, e, k1, rv⟩ | ⟨xs, n, e, k1, rk, rv⟩
  · obtain ⟨z, hd, vs, rel, dd⟩ := dk_of I.hok e
    obtain ⟨es, ep, raw, hs, he⟩ := dd.raw
    have lk : kvs.length = ps.length := by have := congrArg List.length k1; simpa using this.symm
    have lv : vs.length = kvs.length := rel.length.symm
    have rks : ∀ {kvs : List (Key × V)} {ps : List (PyData × PyData)}, ps.map (fun p => dkOf p.1) = kvs.map (fun p => some (DK.k p.1)) → Reps X.K B (kvs.map fun p => kV p.1) (ps.map (·.1)) := by
      intro kvs
      induction kvs with
      | nil => intro ps h; cases ps with
        | nil => exact .nil
        | cons _ _ => simp at h
      | cons x kvs ih => intro ps h; cases ps with
        | nil => simp at h
        | cons p ps =>
          simp only [List.map_cons, List.cons.injEq] at h
          rw [List.map_cons, List.map_cons]
          refine .cons ?_ (ih h.2)
          have h1 := h.1
          cases hp : p.1 with
          | int j => rw [hp] at h1; simp only [dkOf] at h1; obtain ⟨k, v⟩ := x; cases h1; exact .int j
          | str t => rw [hp] at h1; simp only [dkOf] at h1; obtain ⟨k, v⟩ := x; cases h1; exact .str t
          | tuple ds =>
            rw [hp] at h1
            simp only [dkOf, dkTup] at h1
            split at h1
            · split at h1 <;> cases h1
            · cases h1
          | _ => rw [hp] at h1; simp [dkOf] at h1
    refine ⟨a, es, ep, kvs.map fun p => kV p.1, rfl, hd, raw, by omega, by omega, rks k1, fun i hi => ?_⟩
    have hi2 : i < kvs.length := by omega
    have ek := rel.keys
    have hkey : (vs[i]'(by omega)).1 = (kvs[i]'hi2).1 := by
      have := congrArg (fun l => l[i]?) ek
      simp [hi2, show i < vs.length by omega] at this
      exact this.symm
    obtain ⟨h1, _⟩ := he i hi (vs[i]'(by omega)).1 (vs[i]'(by omega)).2 (by rw [List.getElem?_eq_getElem (by omega)])
    refine ⟨kV (kvs[i]'hi2).1, by simp [hi2], ?_⟩
    rw [← hkey]
    rw [mixKind_is] at h1
    rcases keyIs_shape h1 with ⟨j, t, e1, e2⟩ | ⟨j, t, e1, e2⟩
    · rw [e1, e2]; exact ⟨t, rfl⟩
    · rw [e1, e2]; exact ⟨t, rfl⟩
  · obtain ⟨us, ru, h1, h2, h3⟩ := dn_at I sB e k1 rk
    obtain ⟨es, ep, raw, hs, he⟩ := h1.raw
    have lk : xs.length = ps.length := by have := congrArg List.length k1; simpa using this.symm
    have hlen : us.length = xs.length := by have := ru.length; rw [List.length_map] at this; omega
    have lz : (zipU xs us).length = xs.length := by
      have := congrArg List.length (zipU_keys xs us hlen)
      rw [List.length_map, List.length_map] at this
      exact this
    have zget : ∀ (xs : List (NestedKey × Addr × V)) (us : List Value) (i : Nat) (z : NestedKey × Addr × Value), (zipU xs us)[i]? = some z → ∃ x, xs[i]? = some x ∧ x.2.1 = z.2.1 := by
      intro xs
      induction xs with
      | nil => intro us i z h; simp [zipU] at h
      | cons x xs ih => intro us i z h; cases us with
        | nil => simp [zipU] at h
        | cons u us => cases i with
          | zero => simp [zipU] at h; subst h; exact ⟨x, rfl, rfl⟩
          | succ i =>
            simp only [zipU, List.getElem?_cons_succ] at h
            obtain ⟨x', a1, a2⟩ := ih us i z h
            exact ⟨x', by simpa using a1, a2⟩
    refine ⟨a, es, ep, xs.map fun x => V.ref x.2.1, rfl, h2, raw, by omega, by omega, rk, fun i hi => ?_⟩
    obtain ⟨z, q1, q2, _, _⟩ := he i hi
    obtain ⟨x, q3, q4⟩ := zget xs us i z q1
    refine ⟨V.ref x.2.1, by rw [List.getElem?_map, q3]; rfl, ?_⟩
    rw [q2, ← q4]; exact rfl
def rListD (K : PySem.W.Frag) : List V → Hp → VK → Prop := fun xs H Q => ∃ B ps y, xs = [y] ∧ Same B H ∧ DRep K B H y ps ∧ ∀ l vs, H l = none → Reps K B vs (ps.map (·.1)) → Q (.ref l) (upd H l (.lst vs))
theorem cr_listDict (hc : X.calm = true) : CallR X (.type "list") (rListD X.K) := by
  intro pins s σ H xs us Q I r h
  obtain ⟨B, ps, y, rfl, sB, hy, q⟩ := h
  obtain ⟨a, es, ep, ks, rfl, hd, raw, hs, hz, rk, he⟩ := dic_raw I sB hy
  cases r with
  | cons r1 t =>
    cases t
    obtain rfl := (show _ = Value.ref a from r1)
    have hlen : ks.length = ps.length := by have := rk.length; rw [List.length_map] at this; exact this
    refine PySem.W.kdl_call (KdlSrc.rawDict hd) (I.ok.hd hc) raw (by omega) fun h' tk acc' c' hk ho hi => ⟨.ref _, _, I.laid (o := .lst ks) hk (Nat.le_refl _) ⟨by omega, acc'.toList, c', ?_, by simpa using ho⟩, rfl, q _ ks I.fresh rk⟩
    have hsz : acc'.toList.length = ks.length := by have := hi.1; rw [Array.length_toList]; omega
    have go : ∀ (ks : List V) (us : List Value), us.length = ks.length → (∀ (i : Nat) (u : Value), us[i]? = some u → ∃ v, ks[i]? = some v ∧ RelV v u) → Vals ks us := by
      intro ks
      induction ks with
      | nil => intro us h _; cases us with
        | nil => exact .nil
        | cons _ _ => simp at h
      | cons k ks ih => intro us h hh; cases us with
        | nil => simp at h
        | cons u us =>
          obtain ⟨v, v1, v2⟩ := hh 0 u rfl
          simp at v1; subst v1
          exact .cons v2 (ih us (by simpa using h) fun i u hu => by simpa using hh (i + 1) u (by simpa using hu))
    refine go ks _ hsz fun i u hu => ?_
    obtain ⟨hi2, e2⟩ := hi.2 i u (by rw [← Array.getElem?_toList]; exact hu)
    obtain ⟨v, v1, v2⟩ := he i hi2
    exact ⟨v, v1, by rw [e2]; exact v2⟩
def rLenD (K : PySem.W.Frag) : List V → Hp → VK → Prop := fun xs H Q => ∃ B ps y, xs = [y] ∧ Same B H ∧ DRep K B H y ps ∧ Q (.int ps.length) H
theorem cr_lenDict : CallR X (.builtin "len") (rLenD X.K) := by
  intro pins s σ H xs us Q I r h
  obtain ⟨B, ps, y, rfl, sB, hy, q⟩ := h
  obtain ⟨a, es, ep, ks, rfl, hd, raw, hs, hz, rk, he⟩ := dic_raw I sB hy
  cases r with
  | cons r1 t =>
    cases t
    obtain rfl := (show _ = Value.ref a from r1)
    refine PyProof.Rows.call_len_slot (n := (es.size : Int)) raw.typeIs PySem.F.slot_dict_len (fun Q' hq => call_len_raw hd raw hq) (by omega) (by rw [sizeLine_eq] at hz; omega) ⟨.int es.size, H, I.tok _, ⟨_, rfl⟩, ?_⟩
    rw [hs]; exact q
/-- max(t), min(t) of a tuple of ints -/
def rMaxT (K : PySem.W.Frag) : List V → Hp → VK → Prop := fun vs H Q => ∃ (a : Addr) (ns : List Int), vs = [V.ref a] ∧ SqT K H a (ns.map V.int) ∧ 0 < ns.length ∧ ∀ m, m ∈ ns → (∀ y, y ∈ ns → y ≤ m) → Q (.int m) H
def rMinT (K : PySem.W.Frag) : List V → Hp → VK → Prop := fun vs H Q => ∃ (a : Addr) (ns : List Int), vs = [V.ref a] ∧ SqT K H a (ns.map V.int) ∧ 0 < ns.length ∧ ∀ m, m ∈ ns → (∀ y, y ∈ ns → m ≤ y) → Q (.int m) H
theorem new_in {s : Shared} {l : Addr} {o : Obj} (hlt : l < s.heap.objs.size) : ∀ b ∈ [s.heap.objs.size, l], b < (s.heap.push o).objs.size := fun b hb => by
  rw [Heap.size_push]
  simp only [List.mem_cons, List.not_mem_nil, or_false] at hb
  rcases hb with h | h
  · rw [h]; exact Nat.lt_succ_self _
  · rw [h]; exact Nat.lt_succ_of_lt hlt
theorem old_in {s : Shared} {o : Obj} {h' : Heap} (hk : ∀ b u, b ∉ [s.heap.objs.size] → (s.heap.push o).get? b = some u → h'.get? b = some u) (b : Addr) (u : Obj) (e : s.heap.get? b = some u) : h'.get? b = some u :=
  hk b u (fun hm => by rw [List.mem_singleton] at hm; exact absurd (hm ▸ Heap.lt_size e) (Nat.lt_irrefl _)) (Heap.get?_push_of_some _ e)
theorem cr_maxT (hc : X.calm = true) : CallR X (.builtin "max") (rMaxT X.K) := by
  intro pins s σ H vs us Q I r h
  obtain ⟨a, ns, rfl, hs, hne, q⟩ := h
  obtain ⟨its, rv, hl, _⟩ := I.tuple hs
  rw [Vals.ref1 r]
  have hi := rv.ints
  obtain ⟨xs, e⟩ := hi.allInts.items
  have hn : numsOf (intItems xs).toList = ns := by rw [← e]; exact hi.numsOf
  rw [nums_intItems] at hn
  subst hn
  rw [e] at hl
  have hsz : 0 < xs.size := by simpa using hne
  obtain ⟨o0, ho0, _⟩ := id hl
  have hlt := Heap.lt_size ho0
  refine call_max_walk (wpAny_pyIter_tuple hl ⟨_, _, _, _, _, _, _, rfl, Walks.tuple (A := X.A.in1) (I.ok.hd hc) _ a (Nat.ne_of_lt hlt) (intItems xs), ⟨⟨_, Heap.get?_push_size _ rfl, rfl, rfl⟩, Heap.IsTuple.push hl _⟩, new_in hlt, by simpa [intItems] using hsz, CmpOf.ints_gt (numAt xs) (fun _ _ => intItems_at), fun v h' tk hP hk => ?_⟩)
  obtain ⟨t, rfl⟩ := intItems_at hP
  have hsz' : (intItems xs).size = xs.size := by simp [intItems]
  rw [hsz']
  obtain ⟨h1, h2⟩ := argBest_gt (numAt xs) (xs.size - 1)
  refine ⟨.int _, H, I.kept (old_in hk), ⟨_, rfl⟩, q _ ?_ fun y hy => ?_⟩
  · rw [numAt_eq]; exact PySem.getD_mem (by rw [List.length_map, Array.length_toList]; omega)
  · obtain ⟨j, hj, rfl⟩ := mem_getD hy
    rw [List.length_map, Array.length_toList] at hj
    rw [← numAt_eq]; exact h2 j (by omega)
/-- sorted of a tuple of ints -/
theorem cr_sortedTi : CallR X (.builtin "sorted") (fun vs H Q => ∃ (a : Addr) (ns : List Int), vs = [V.ref a] ∧ SqT X.K H a (ns.map V.int) ∧ ∀ (ns' : List Int) (p : Addr), ns'.Perm ns → ns'.Pairwise (· ≤ ·) → H p = none → Q (.ref p) (upd H p (.lst (ns'.map V.int)))) := by
  intro pins s σ H vs us Q I r ⟨a, ns, ev, hs, q⟩
  subst ev
  obtain ⟨its, rv, ⟨o, o1, o2, n, o3⟩, hz⟩ := I.tuple hs
  have hi := rv.ints
  have hz2 : its.length ≤ sizeLine := by rw [← rv.length]; exact hz
  rw [Vals.ref1 r]
  refine Calls.call_function_entry PyProof.Rows.kind_sorted PyProof.Rows.plain_sorted PyProof.Rows.entry_sorted (PyProof.Rows.args_sorted1 _) ?_
  unfold Builtin.«sorted»
  refine wpAny_bind (m := checkCount "sorted" 1 1 _) (wpAny_pure (wpAny_bind (PySem.wpAny_collect_seq a (.inr rfl) o1 o2 o3 (fun h1 old => wpAny_bind (wpAny_newList ?_ (by simpa using hz2))) (by simpa using hz2))))
  have at1 : (h1.push { cls := .type "list", data := .seq its.toArray.toList.toArray }).get? h1.objs.size = some (PyProof.Rows.seqObj "list" its.toArray.toList.toArray 0) := Heap.get?_push_size _ rfl
  refine wpAny_bind (wpAny_holding (wpAny_call_entry PyProof.Rows.slot_list_sort ⟨_, at1, rfl⟩ PyProof.Rows.entry_list_sort (SrtO.list_sort_ord SrtO.swo_int at1 (by simpa using hz2) (fun h2 => SrtO.ints_sortable (by simpa using hi) h2) fun out s1 s2 => ⟨_, rfl, wpAny_pure ⟨_, rfl, ?_⟩⟩) (PyProof.Rows.args_list_sort _)))
  obtain ⟨k1, k2, k3⟩ := SrtO.ints_out (by simpa using hi) s1 s2
  obtain ⟨ep, at2⟩ := PyProof.Rows.sortedHeap_at (vs := its.toArray.toList) (out := out.toArray) at1
  have len : ((out.map SrtO.iv).map V.int).length ≤ sizeLine := by
    rw [List.length_map, k2.length_eq]
    simpa using hz
  have I1 : L2.Inv X pins σ H { s with heap := h1 } := I.kept (t' := s.toks) old
  have keep : ∀ b u, h1.get? b = some u → (PyProof.Rows.sortedHeap (h1.push { cls := .type "list", data := .seq its.toArray.toList.toArray }) h1.objs.size its.toArray.toList out.toArray).get? b = some u := fun b u e1 => by
    have lt := Heap.lt_size e1
    rw [PyProof.Rows.sortedHeap_old (Nat.ne_of_lt lt) (Nat.lt_of_lt_of_le lt (by rw [Heap.size_push]; exact Nat.le_succ _))]
    exact Heap.get?_push_of_some _ e1
  exact ⟨.ref h1.objs.size, upd H h1.objs.size (.lst ((out.map SrtO.iv).map V.int)), I1.laid (t' := s.toks) keep (Nat.le_refl _) ⟨len, out, ep, vals_of_ints k1, at2⟩, rfl, q _ _ k2 k3 (I1.hok.fresh (Nat.le_refl _))⟩
end
end PyI

namespace PyI
open PySem PySem.Spec L2 PyProof.Rows
section
variable {X : Cx}
/-- x in xs by data, deep -/
theorem op_inDeep (hu : X.A.units + 65 < cLine) (neg : Bool) : OpR X (compareOp (if neg = true then .NotIn else .In)) (fun x y H Q => ∃ d ds, Dp X.K H x d ∧ (Dp X.K H y (.list ds) ∨ Dp X.K H y (.tuple ds)) ∧ SeqAt.shaped d = true ∧ PyData.canLayAll0 ds = true ∧ Q (.bl (neg != ds.any fun z => PyData.eqv z d)) H) := by
  intro pins s σ H x y v u Q I rx ry h
  obtain ⟨d, ds, hd, he, sd, se, q⟩ := h
  obtain ⟨as, r1⟩ := Dp.reads I d x v hd rx
  cases neg with
  | false =>
    rw [Bool.false_bne] at q
    rcases he with he | he
    · obtain ⟨bs, r2⟩ := Dp.reads I (.list ds) y u he ry
      exact SeqAt.in_list_reads r2 r1 se (SeqAt.canLay_of_shaped sd) (room_in_shaped sd hu) ⟨.bl _, H, I, rfl, q⟩
    · obtain ⟨bs, r2⟩ := Dp.reads I (.tuple ds) y u he ry
      exact SeqAt.in_tuple_reads r2 r1 se (SeqAt.canLay_of_shaped sd) (room_in_shaped sd hu) ⟨.bl _, H, I, rfl, q⟩
  | true =>
    rw [Bool.true_bne] at q
    rcases he with he | he
    · obtain ⟨bs, r2⟩ := Dp.reads I (.list ds) y u he ry
      exact SeqAt.notIn_list_reads r2 r1 se (SeqAt.canLay_of_shaped sd) (room_in_shaped sd hu) ⟨.bl _, H, I, rfl, q⟩
    · obtain ⟨bs, r2⟩ := Dp.reads I (.tuple ds) y u he ry
      exact SeqAt.notIn_tuple_reads r2 r1 se (SeqAt.canLay_of_shaped sd) (room_in_shaped sd hu) ⟨.bl _, H, I, rfl, q⟩
theorem op_inFlat (neg : Bool) : OpR X (compareOp (if neg = true then .NotIn else .In)) (rIn X.K neg) := by
  cases neg with
  | false => exact op_in_seq
  | true => exact op_notIn_seq
theorem opInD (hu : X.A.units + 65 < cLine) (neg : Bool) : OpR X (compareOp (if neg = true then .NotIn else .In)) (rD X.K (inD neg)) :=
  (((op_inFlat neg).or (op_inDeep hu neg)).or (op_inDic hu neg)).imp fun x y H Q ⟨B, u, v, o, s, hu, hv, ho, post⟩ => by
    by_cases hdi : ∃ ps, v = .dict ps
    · obtain ⟨ps, rfl⟩ := hdi
      have ho : (getP ps u).bind (fun r => boolO (neg != r.isSome)) = some o := ho
      cases hg : getP ps u with
      | none => rw [hg] at ho; cases ho
      | some r =>
        rw [hg] at ho
        cases boolO_some ho
        exact .inr ⟨B, u, ps, r, s, hu, hv.dicD s, hg, post _ (.bl _)⟩
    refine .inl ?_
    have neq : ∀ b : Bool, (if neg = true then !b else b) = (neg != b) := fun b => by cases neg <;> cases b <;> rfl
    have key : ∀ ds, (v = .list ds ∨ v = .tuple ds) → inOk u ds = true → o = .old (.bool (neg != ds.any fun z => PyData.eqv z u)) →
        (∃ p xs, y = .ref p ∧ (SqL X.K H p xs ∨ SqT X.K H p xs) ∧ Reps X.K B xs ds) → (PyData.canLayAll0 ds = true → (Dp X.K H y (.list ds) ∨ Dp X.K H y (.tuple ds))) →
        rIn X.K neg x y H Q ∨ ∃ d ds, Dp X.K H x d ∧ (Dp X.K H y (.list ds) ∨ Dp X.K H y (.tuple ds)) ∧ SeqAt.shaped d = true ∧ PyData.canLayAll0 ds = true ∧ Q (.bl (neg != ds.any fun z => PyData.eqv z d)) H := by
      intro ds _ hk eo ⟨p, xs, ey, sq, rs⟩ hd
      subst eo
      rcases Bool.or_eq_true_iff.mp hk with hk | hk
      · obtain ⟨f1, f2⟩ := Bool.and_eq_true_iff.mp hk
        have rx := hu.flat f1
        refine .inl ⟨p, xs, ey, sq, flat_V rx f1, flat_all rs f2, ?_⟩
        rw [flat_inV rx f1 rs f2, neq]
        exact post _ (.bl _)
      · obtain ⟨f1, f2⟩ := Bool.and_eq_true_iff.mp hk
        exact .inr ⟨u, ds, (hu.rep s).dp (canLay_of f1), hd f2, f1, f2, post _ (.bl _)⟩
    unfold inD at ho
    split at ho
    · split at ho
      · rename_i ds hk
        obtain ⟨a, xs, e, sq, rs⟩ := hv.lst s
        exact key ds (.inl rfl) hk (boolO_some ho) ⟨a, xs, e, .inl sq, rs⟩ fun z => .inl ((hv.rep s).dp (by simpa [PyData.canLay0] using z))
      · cases ho
    · split at ho
      · rename_i ds hk
        obtain ⟨a, xs, e, sq, rs⟩ := hv.tup
        exact key ds (.inr rfl) hk (boolO_some ho) ⟨a, xs, e, .inr (same_seqT s sq), rs⟩ fun z => .inr ((hv.rep s).dp (by simpa [PyData.canLay0] using z))
      · cases ho
    · exact absurd ⟨_, rfl⟩ hdi
    · cases ho
theorem opCmp (hu : X.A.units + 65 < cLine) (op : CmpOp) : OpR X (compareOp op) (rD X.K (cmpD op)) := by
  cases op
  case Eq => exact opEq (by omega)
  case NotEq => exact opNe (by omega)
  case Lt => exact opLt (by omega)
  case LtE => exact opLe
  case Gt => exact opGt (by omega)
  case GtE => exact opGe
  case Is => exact opIs
  case IsNot => exact opIsNot
  case In => exact opInD hu false
  case NotIn => exact opInD hu true

/-! ## unary -/
def negD : PyData → Option Or
  | .int i => some (.old (.int (-i)))
  | _ => none
def unD : UnaryOp → PyData → Option Or
  | .USub => negD
  | _ => fun _ => none
def fUn (op : PyData → Option Or) (fa : M Opd) : M (PyData × Bool) := fun env => bnd (fa env) fun x e1 =>
  match getO e1 x with
  | some u => (op u).map (orR e1)
  | none => none
def rU1 (K : PySem.W.Frag) (op : PyData → Option Or) : V → Hp → VK → Prop := fun x H Q => ∃ B u o, Same B H ∧ RepO K B H x u ∧ op u = some o ∧ PostOr K B H Q o
theorem opNeg : UnR X (unaryOp .USub) (rU1 X.K negD) := by
  intro pins s σ H x v Q I rx ⟨B, u, o, _, hu, ho, post⟩
  unfold negD at ho
  split at ho
  · cases ho
    exact un_neg pins s σ H x v Q I rx ⟨_, hu.int, post _ (.int _)⟩
  · cases ho
theorem opUn (op : UnaryOp) : UnR X (unaryOp op) (rU1 X.K (unD op)) := by
  cases op
  case USub => exact opNeg
  all_goals exact fun pins s σ H x v Q I rx ⟨B, u, o, _, _, ho, _⟩ => (nomatch ho)
theorem un_ok {W : WX} {op : PyData → Option Or} {fa : M Opd} {r : V → Hp → VK → Prop} (hr : ∀ x H Q, rU1 X.K op x H Q → r x H Q) : ∀ σ H Q, tE X W (fUn op fa) σ H Q → tUn r (tO X W fa) σ H Q := by
  intro σ H Q ⟨H0, B0, fx, B, env, rr, S, h, post⟩
  unfold fUn at h
  rcases bnd_some h with ⟨x, e1, h1, h2⟩ | ⟨c, e1, h1, rfl⟩
  · refine ⟨H0, B0, fx, B, env, _, S, h1, fun vx H1 B1 s1 S1 o1 => hr _ _ _ ?_⟩
    split at h2
    · rename_i u hu
      cases ho : op u with
      | none => rw [ho] at h2; cases h2
      | some o =>
        rw [ho] at h2; cases h2
        exact ⟨B1, u, o, S1.h.sub, o1.get S1 hu, ho, postOr s1 S1 post⟩
    · cases h2
  · exact ⟨H0, B0, fx, B, env, _, S, h1, fun H' B' a s2 S2 hm => post H' B' a s2 S2 hm⟩

/-! ## subscripts, slices -/
def oldO (o : Option PyData) : Option Or := o.map .old
def ixD : B2
  | .list ds, .int i => oldO (atI ds i)
  | .tuple ds, .int i => oldO (atI ds i)
  | .str x, .int i => if x.length ≤ sizeLine then oldO ((atI x.cps.toList i).map fun c => .str ⟨#[c]⟩) else none
  | .dict ps, d => (getP ps d).bind oldO
  | _, _ => none
theorem atI_reps {K : PySem.W.Frag} {H : Hp} {vs : List V} {ds : List PyData} {i : Int} {d : PyData} (r : Reps K H vs ds) (h : atI ds i = some d) : ∃ v, atI vs i = some v ∧ Rep K H v d := by
  unfold atI at h ⊢
  rw [r.length]
  cases e : ixN ds.length i with
  | none => rw [e] at h; cases h
  | some j => rw [e] at h; exact r.get h
theorem oldO_some {x : Option PyData} {o : Or} (h : oldO x = some o) : ∃ d, x = some d ∧ o = .old d := by
  cases x with
  | none => cases h
  | some d => exact ⟨d, rfl, (Option.some.inj h).symm⟩
def rDI (K : PySem.W.Frag) : R2 := rD K ixD
theorem _root_.L2.IxR.imp {r r' : R2} (h : IxR X r) (i : ∀ x y H Q, r' x y H Q → r x y H Q) : IxR X r' := fun va sl pins s σ H x y v u Q I rx ry q hs => h va sl pins s σ H x y v u Q I rx ry (i _ _ _ _ q) hs
theorem ixSeq (hu0 : X.A.units + 65 < cLine) : IxR X (rD X.K ixD) :=
  (ix_seq.or (ix_dic hu0)).imp fun x y H Q ⟨B, u, v, o, s, hu, hv, ho, post⟩ => by
    by_cases hdi : ∃ ps, u = .dict ps
    · obtain ⟨ps, rfl⟩ := hdi
      have ho : (getP ps v).bind oldO = some o := ho
      cases hg : getP ps v with
      | none => rw [hg] at ho; cases ho
      | some r =>
        rw [hg] at ho
        obtain ⟨d, hd, rfl⟩ := oldO_some ho
        subst hd
        exact .inr ⟨B, v, ps, d, s, hv, hu.dicD s, hg, post⟩
    refine .inl ?_
    unfold ixD at ho
    split at ho
    · obtain ⟨d, hd, rfl⟩ := oldO_some ho
      obtain ⟨a, xs, rfl, sq, rs⟩ := hu.lst s
      obtain ⟨w, hw, rw'⟩ := atI_reps rs hd
      exact .inl ⟨a, xs, _, w, rfl, hv.int, sq, hw, post _ rw'⟩
    · obtain ⟨d, hd, rfl⟩ := oldO_some ho
      obtain ⟨a, xs, rfl, sq, rs⟩ := hu.tup
      obtain ⟨w, hw, rw'⟩ := atI_reps rs hd
      exact .inr (.inl ⟨a, xs, _, w, rfl, hv.int, same_seqT s sq, hw, post _ rw'⟩)
    · split at ho
      · rename_i hz
        obtain ⟨d, hd, rfl⟩ := oldO_some ho
        cases hc : atI (_ : List Nat) _ with
        | none => rw [hc] at hd; cases hd
        | some c =>
          rw [hc] at hd; cases hd
          exact .inr (.inr ⟨_, _, c, hu.str, hv.int, hz, hc, post _ (.str _)⟩)
      · cases ho
    · exact absurd ⟨_, rfl⟩ hdi
    · cases ho
def cutP (ds : List PyData) (lo hi : Option Int) : List PyData := (ds.drop (HT.sIx ds.length 0 lo)).take (HT.sIx ds.length ds.length hi - HT.sIx ds.length 0 lo)
def slD : PyData → Option Int → Option Int → Option Or
  | .list ds, lo, hi => some (.newL (cutP ds lo hi))
  | .tuple ds, lo, hi => some (.newT (cutP ds lo hi))
  | .str x, lo, hi => if x.length ≤ sizeLine then some (.old (.str (cutS x lo hi))) else none
  | _, _, _ => none
def rS3 (K : PySem.W.Frag) : V → Option Int → Option Int → Hp → VK → Prop := fun x lo hi H Q => ∃ B u o, Same B H ∧ RepO K B H x u ∧ slD u lo hi = some o ∧ PostOr K B H Q o
theorem cutP_reps {K : PySem.W.Frag} {H : Hp} {vs : List V} {ds : List PyData} (r : Reps K H vs ds) (lo hi : Option Int) : Reps K H (cutV vs lo hi) (cutP ds lo hi) := by
  unfold cutV cutP
  rw [r.length]
  exact r.cut _ _
theorem cut_whole {ds : List PyData} {lo hi : Option Int} (h : HT.sIx ds.length 0 lo = 0 ∧ HT.sIx ds.length ds.length hi = ds.length) : cutP ds lo hi = ds := by
  unfold cutP
  rw [h.1, h.2]
  simp
/-- t[lo:hi], the new tuple known -/
def rSlX (K : PySem.W.Frag) : V → Option Int → Option Int → Hp → VK → Prop := fun x lo hi H Q => ∃ a xs, x = .ref a ∧ SqT K H a xs ∧
  (HT.sIx xs.length 0 lo = 0 ∧ HT.sIx xs.length xs.length hi = xs.length → Q (.ref a) H) ∧
  (¬ (HT.sIx xs.length 0 lo = 0 ∧ HT.sIx xs.length xs.length hi = xs.length) → ∀ p o, H p = none → o.dict = none → Q (.ref p) (upd H p (.frz o (.tup (cutV xs lo hi)))))
theorem sl_tupX : SlR X (rSlX X.K) := by
  intro pins s σ H x v vl vu lo hi sl Q I rx hs pl pu ⟨a, xs, ex, hx, q1, q2⟩
  subst ex
  cases rx
  obtain ⟨its, r, ht, hz⟩ := I.tuple hx
  have hlen : its.toArray.size = xs.length := by rw [List.size_toArray]; exact r.length.symm
  refine ⟨"tuple", _, PyProof.Rows.slot_tuple_getitem.lookup, ht.typeIs, ?_⟩
  by_cases hw : HT.sIx xs.length 0 lo = 0 ∧ HT.sIx xs.length xs.length hi = xs.length
  · exact getItem_tuple_whole ht hs pl pu (by rw [hlen]; exact hw) ⟨.ref a, H, I, rfl, q1 hw⟩
  · refine HT.getItem_tuple_cut ht hs pl pu (by rw [hlen]; exact hw) ?_ (by rw [hlen]; exact hz)
    rw [hlen]
    exact ⟨.ref s.heap.objs.size, _, I.laid (t' := s.toks) (o := .frz (tobj _ 0) (.tup (cutV xs lo hi))) (fun b ob q => Heap.get?_push_of_some _ q) (Nat.le_refl _)
      ⟨Heap.get?_push_size s.heap rfl, Nat.le_trans (cutV_length xs lo hi) hz, _, (r.drop (HT.sIx xs.length 0 lo)).take (HT.sIx xs.length xs.length hi - HT.sIx xs.length 0 lo), IsTup.new _ _⟩, rfl, q2 hw _ _ (I.hok.fresh (Nat.le_refl _)) rfl⟩
theorem slSeq : SlR X (rS3 X.K) := by
  have h : SlR X _ := sl_list.or (sl_tupX.or sl_str)
  intro pins s σ H x v vl vu lo hi sl Q I rx hs pl pu ⟨B, u, o, sB, hu, ho, post⟩
  refine h pins s σ H x v vl vu lo hi sl Q I rx hs pl pu ?_
  unfold slD at ho
  split at ho
  · cases ho
    obtain ⟨a, xs, rfl, sq, rs⟩ := hu.lst sB
    exact .inl ⟨a, xs, rfl, sq, fun p hp => post p _ hp (cutP_reps rs lo hi)⟩
  · cases ho
    obtain ⟨a, xs, rfl, sq, rs⟩ := hu.tupX
    refine .inr (.inl ⟨a, xs, rfl, same_seqT sB sq.sq, fun hw => ?_, fun hw p o hp ho => post.2 p _ o hp ho (cutP_reps rs lo hi)⟩)
    rw [rs.length] at hw
    exact post.1 _ (by rw [cut_whole hw]; exact .tup sq rs)
  · split at ho
    · rename_i hz
      cases ho
      exact .inr (.inr ⟨_, hu.str, hz, post _ (.str _)⟩)
    · cases ho
  · cases ho

/-! ## calls of built-ins by values -/
inductive ROs (K : PySem.W.Frag) (B H : Hp) : List V → List PyData → Prop
  | nil : ROs K B H [] []
  | cons {v vs d ds} : RepO K B H v d → ROs K B H vs ds → ROs K B H (v :: vs) (d :: ds)
theorem OpdsOk.get {K : PySem.W.Frag} {H0 B0 B H : Hp} {fx : List (Addr × HO)} {σ : L2.St} {env : Ev} (S : Sim K H0 B0 fx B H σ env) : ∀ {vs : List V} {os : List Opd} {ds : List PyData}, OpdsOk K B σ vs os → getOs env os = some ds → ROs K B H vs ds
  | _, _, ds, .nil, g => by cases g; exact .nil
  | _, _, ds, .cons (o := o) (os := os) h t, g => by
    have g' : (match getO env o, getOs env os with | some d, some ds => some (d :: ds) | _, _ => none) = some ds := g
    cases q : getO env o with
    | none => rw [q] at g'; cases g'
    | some d =>
      cases q2 : getOs env os with
      | none => rw [q, q2] at g'; cases g'
      | some es =>
        rw [q, q2] at g'; cases g'
        exact .cons (h.get S q) (OpdsOk.get S t q2)
abbrev BN := List PyData → Option Or
def rC (K : PySem.W.Frag) (op : BN) : List V → Hp → VK → Prop := fun xs H Q => ∃ B us o, Same B H ∧ ROs K B H xs us ∧ op us = some o ∧ PostOr K B H Q o
theorem _root_.L2.CallR.imp {f : Value} {r r' : List V → Hp → VK → Prop} (h : CallR X f r) (i : ∀ xs H Q, r' xs H Q → r xs H Q) : CallR X f r' := fun pins s σ H xs us Q I r q => h pins s σ H xs us Q I r (i _ _ _ q)

def intO (i : Int) : Option Or := some (.old (.int i))
def lenD : BN
  | [.list ds] => intO ds.length
  | [.tuple ds] => intO ds.length
  | [.dict ps] => intO ps.length
  | [.str x] => if x.length ≤ sizeLine then intO x.length else none
  | _ => none
def intFD : BN
  | [.int i] => intO i
  | [.bool b] => intO (if b then 1 else 0)
  | _ => none
def absD : BN
  | [.int i] => intO (if i < 0 then -i else i)
  | _ => none
def maxOf : List Int → Option Int
  | [] => none
  | x :: xs => some (xs.foldl max x)
def minOf : List Int → Option Int
  | [] => none
  | x :: xs => some (xs.foldl min x)
def maxD : BN
  | [.int i, .int j] => intO (max i j)
  | [.list ds] => match intsOf ds with
    | some ns => (maxOf ns).bind intO
    | none => none
  | [.tuple ds] => match intsOf ds with
    | some ns => (maxOf ns).bind intO
    | none => none
  | _ => none
def minD : BN
  | [.int i, .int j] => intO (min i j)
  | [.list ds] => match intsOf ds with
    | some ns => (minOf ns).bind intO
    | none => none
  | _ => none
def sumD : BN
  | [.list ds] => match intsOf ds with
    | some ns => intO ns.sum
    | none => none
  | _ => none
def boolsOf : List PyData → Option (List Bool)
  | [] => some []
  | .bool i :: r => (boolsOf r).map (i :: ·)
  | _ :: _ => none
def anyD : BN
  | [.list ds] => match boolsOf ds with
    | some ns => boolO (ns.any id)
    | none => none
  | _ => none
def allD : BN
  | [.list ds] => match boolsOf ds with
    | some ns => boolO (ns.all id)
    | none => none
  | _ => none
def listD : BN
  | [.list ds] => some (.newL ds)
  | [.tuple ds] => some (.newL ds)
  | [.dict ps] => some (.newL (ps.map (·.1)))
  | _ => none
def tupleD : BN
  | [.list ds] => some (.newT ds)
  | [.tuple ds] => some (.old (.tuple ds))
  | _ => none
def divmodD : BN
  | [.int i, .int j] => if 0 < j ∧ j < 1073741824 then some (.newT [.int (i / j), .int (i % j)]) else none
  | _ => none
def strFD : BN
  | [.int i] => if i.natAbs.log2 < 1920 then some (.old (.str (toString i))) else none
  | _ => none
/-- ints in order -/
def insI (x : Int) : List Int → List Int
  | [] => [x]
  | y :: ys => if x ≤ y then x :: y :: ys else y :: insI x ys
def sortI : List Int → List Int
  | [] => []
  | x :: xs => insI x (sortI xs)
def sortAD (ds : List PyData) : Option Or := if okA ds = true then some (.newL (sortA ds)) else none
def sortedD : BN
  | [.list ds] => match intsOf ds with
    | some ns => some (.newL ((sortI ns).map .int))
    | none => if keysOk ds = true then some (.newL (sortK ds)) else sortAD ds
  | [.tuple ds] => match intsOf ds with
    | some ns => some (.newL ((sortI ns).map .int))
    | none => none
  | [.dict ps] => match intsOf (ps.map (·.1)) with
    | some ns => some (.newL ((sortI ns).map .int))
    | none => none
  | _ => none
inductive Blt where
  | len | int | abs | max | min | sum | any | all | list | tuple | divmod | str | sorted
  deriving DecidableEq
def Blt.name : Blt → Str
  | .len => "len" | .int => "int" | .abs => "abs" | .max => "max" | .min => "min" | .sum => "sum" | .any => "any" | .all => "all" | .list => "list" | .tuple => "tuple" | .divmod => "divmod" | .str => "str" | .sorted => "sorted"
def Blt.value : Blt → Value
  | .len => .builtin "len" | .int => .type "int" | .abs => .builtin "abs" | .max => .builtin "max" | .min => .builtin "min" | .sum => .builtin "sum" | .any => .builtin "any" | .all => .builtin "all"
  | .list => .type "list" | .tuple => .type "tuple" | .divmod => .builtin "divmod" | .str => .type "str" | .sorted => .builtin "sorted"
def Blt.run : Blt → BN
  | .len => lenD | .int => intFD | .abs => absD | .max => maxD | .min => minD | .sum => sumD | .any => anyD | .all => allD | .list => listD | .tuple => tupleD | .divmod => divmodD | .str => strFD | .sorted => sortedD

theorem insI_perm (y : Int) : ∀ l : List Int, (insI y l).Perm (y :: l)
  | [] => .refl _
  | z :: l => by
    unfold insI
    split
    · exact .refl _
    · exact (List.Perm.cons z (insI_perm y l)).trans (List.Perm.swap y z l)
theorem sortI_perm : ∀ l : List Int, (sortI l).Perm l
  | [] => .nil
  | x :: xs => (insI_perm x _).trans ((sortI_perm xs).cons x)
theorem insI_sorted (y : Int) : ∀ l : List Int, l.Pairwise (· ≤ ·) → (insI y l).Pairwise (· ≤ ·)
  | [], _ => List.pairwise_singleton _ _
  | z :: l, h => by
    unfold insI
    split
    · rename_i hle
      refine List.Pairwise.cons (fun a ha => ?_) h
      rcases List.mem_cons.mp ha with e | ha
      · subst e; exact hle
      · exact Int.le_trans hle ((List.pairwise_cons.mp h).1 a ha)
    · rename_i hle
      refine List.Pairwise.cons (fun a ha => ?_) (insI_sorted y l (List.pairwise_cons.mp h).2)
      rcases List.mem_cons.mp ((insI_perm y l).mem_iff.mp ha) with e | ha
      · subst e; omega
      · exact (List.pairwise_cons.mp h).1 a ha
theorem sortI_sorted : ∀ l : List Int, (sortI l).Pairwise (· ≤ ·)
  | [] => .nil
  | x :: xs => insI_sorted x _ (sortI_sorted xs)
theorem sorted_unique {l m : List Int} (p : l.Perm m) (hl : l.Pairwise (· ≤ ·)) (hm : m.Pairwise (· ≤ ·)) : l = m :=
  p.eq_of_pairwise (fun _ _ _ _ h1 h2 => Int.le_antisymm h1 h2) hl hm
theorem reps_ints {K : PySem.W.Frag} {H : Hp} : ∀ ns : List Int, Reps K H (ns.map V.int) (ns.map PyData.int)
  | [] => .nil
  | n :: ns => .cons (.int n) (reps_ints ns)
theorem boolsOf_reps {K : PySem.W.Frag} {H : Hp} : ∀ {ds : List PyData} {vs : List V} {ns : List Bool}, boolsOf ds = some ns → Reps K H vs ds → vs = ns.map V.bl
  | [], vs, ns, h, r => by cases h; cases r; rfl
  | d :: ds, vs, ns, h, r => by
    cases r with
    | cons r t =>
      cases d with
      | bool i =>
        unfold boolsOf at h
        cases q : boolsOf ds with
        | none => rw [q] at h; cases h
        | some ms =>
          rw [q] at h; cases h
          cases r
          rw [boolsOf_reps q t]; rfl
      | _ => cases h
theorem foldl_max (xs : List Int) : ∀ x, (xs.foldl max x ∈ x :: xs) ∧ ∀ y ∈ x :: xs, y ≤ xs.foldl max x := by
  induction xs with
  | nil => intro x; exact ⟨List.mem_cons_self, fun y hy => by simp at hy; subst hy; exact Int.le_refl _⟩
  | cons z xs ih =>
    intro x
    obtain ⟨h1, h2⟩ := ih (max x z)
    refine ⟨?_, fun y hy => ?_⟩
    · show xs.foldl max (max x z) ∈ x :: z :: xs
      rcases List.mem_cons.mp h1 with e | h
      · rw [e]
        rcases Int.le_total x z with q | q
        · rw [Int.max_eq_right q]; exact List.mem_cons_of_mem _ List.mem_cons_self
        · rw [Int.max_eq_left q]; exact List.mem_cons_self
      · exact List.mem_cons_of_mem _ (List.mem_cons_of_mem _ h)
    · show y ≤ xs.foldl max (max x z)
      have hm := h2 (max x z) List.mem_cons_self
      rcases List.mem_cons.mp hy with e | hy
      · subst e; exact Int.le_trans (Int.le_max_left _ _) hm
      · rcases List.mem_cons.mp hy with e | hy
        · subst e; exact Int.le_trans (Int.le_max_right _ _) hm
        · exact h2 y (List.mem_cons_of_mem _ hy)
theorem foldl_min (xs : List Int) : ∀ x, (xs.foldl min x ∈ x :: xs) ∧ ∀ y ∈ x :: xs, xs.foldl min x ≤ y := by
  induction xs with
  | nil => intro x; exact ⟨List.mem_cons_self, fun y hy => by simp at hy; subst hy; exact Int.le_refl _⟩
  | cons z xs ih =>
    intro x
    obtain ⟨h1, h2⟩ := ih (min x z)
    refine ⟨?_, fun y hy => ?_⟩
    · show xs.foldl min (min x z) ∈ x :: z :: xs
      rcases List.mem_cons.mp h1 with e | h
      · rw [e]
        rcases Int.le_total x z with q | q
        · rw [Int.min_eq_left q]; exact List.mem_cons_self
        · rw [Int.min_eq_right q]; exact List.mem_cons_of_mem _ List.mem_cons_self
      · exact List.mem_cons_of_mem _ (List.mem_cons_of_mem _ h)
    · show xs.foldl min (min x z) ≤ y
      have hm := h2 (min x z) List.mem_cons_self
      rcases List.mem_cons.mp hy with e | hy
      · subst e; exact Int.le_trans hm (Int.min_le_left _ _)
      · rcases List.mem_cons.mp hy with e | hy
        · subst e; exact Int.le_trans hm (Int.min_le_right _ _)
        · exact h2 y (List.mem_cons_of_mem _ hy)

theorem ro1 {K : PySem.W.Frag} {B H : Hp} {xs : List V} {d : PyData} (h : ROs K B H xs [d]) : ∃ x, xs = [x] ∧ RepO K B H x d := by
  cases h with | cons r t => cases t; exact ⟨_, rfl, r⟩
theorem ro2 {K : PySem.W.Frag} {B H : Hp} {xs : List V} {d e : PyData} (h : ROs K B H xs [d, e]) : ∃ x y, xs = [x, y] ∧ RepO K B H x d ∧ RepO K B H y e := by
  cases h with | cons r t => cases t with | cons r' t => cases t; exact ⟨_, _, rfl, r, r'⟩
theorem roL {K : PySem.W.Frag} {B H : Hp} {xs : List V} {ds : List PyData} (s : Same B H) (h : ROs K B H xs [.list ds]) : ∃ a ys, xs = [.ref a] ∧ SqL K H a ys ∧ Reps K B ys ds := by
  obtain ⟨x, rfl, r⟩ := ro1 h
  obtain ⟨a, ys, rfl, h1, h2⟩ := r.lst s
  exact ⟨a, ys, rfl, h1, h2⟩
theorem roT {K : PySem.W.Frag} {B H : Hp} {xs : List V} {ds : List PyData} (s : Same B H) (h : ROs K B H xs [.tuple ds]) : ∃ a ys, xs = [.ref a] ∧ XT K B a ys ∧ SqT K H a ys ∧ Reps K B ys ds := by
  obtain ⟨x, rfl, r⟩ := ro1 h
  obtain ⟨a, ys, rfl, h1, h2⟩ := r.tupX
  exact ⟨a, ys, rfl, h1, same_seqT s h1.sq, h2⟩
theorem intO_some {i : Int} {o : Or} (h : intO i = some o) : o = .old (.int i) := (Option.some.inj h).symm
theorem bltLen : CallR X (.builtin "len") (rC X.K lenD) :=
  ((call_len_seq.or call_len_str).or cr_lenDict).imp fun xs H Q ⟨B, us, o, s, hu, ho, post⟩ => by
    unfold lenD at ho
    split at ho
    · cases intO_some ho
      obtain ⟨a, ys, rfl, h1, h2⟩ := roL s hu
      exact .inl (.inl ⟨a, ys, rfl, .inl h1, by rw [h2.length]; exact post _ (.int _)⟩)
    · cases intO_some ho
      obtain ⟨a, ys, rfl, _, h1, h2⟩ := roT s hu
      exact .inl (.inl ⟨a, ys, rfl, .inr h1, by rw [h2.length]; exact post _ (.int _)⟩)
    · cases intO_some ho
      obtain ⟨x, rfl, r⟩ := ro1 hu
      exact .inr ⟨B, _, x, rfl, s, r.dicD s, post _ (.int _)⟩
    · split at ho
      · rename_i hz
        cases intO_some ho
        obtain ⟨x, rfl, r⟩ := ro1 hu
        cases r.str
        exact .inl (.inr ⟨_, rfl, hz, post _ (.int _)⟩)
      · cases ho
    · cases ho
theorem bltInt : CallR X (.type "int") (rC X.K intFD) :=
  call_int1.imp fun xs H Q ⟨B, us, o, s, hu, ho, post⟩ => by
    unfold intFD at ho
    split at ho
    · cases intO_some ho
      obtain ⟨x, rfl, r⟩ := ro1 hu
      cases r.int
      exact .inl ⟨_, rfl, post _ (.int _)⟩
    · cases intO_some ho
      obtain ⟨x, rfl, r⟩ := ro1 hu
      cases r.bl
      exact .inr ⟨_, rfl, post _ (.int _)⟩
    · cases ho
theorem bltAbs : CallR X (.builtin "abs") (rC X.K absD) :=
  call_abs.imp fun xs H Q ⟨B, us, o, s, hu, ho, post⟩ => by
    unfold absD at ho
    split at ho
    · cases intO_some ho
      obtain ⟨x, rfl, r⟩ := ro1 hu
      cases r.int
      exact ⟨_, rfl, post _ (.int _)⟩
    · cases ho
theorem bind_some {α β : Type} {x : Option α} {f : α → Option β} {b : β} (h : x.bind f = some b) : ∃ a, x = some a ∧ f a = some b := by
  cases x with
  | none => cases h
  | some a => exact ⟨a, rfl, h⟩
theorem bltMax (hc : X.calm = true) : CallR X (.builtin "max") (rC X.K maxD) :=
  ((call_max2 hc).or ((cr_max hc).or (cr_maxT hc))).imp fun xs H Q ⟨B, us, o, s, hu, ho, post⟩ => by
    unfold maxD at ho
    split at ho
    · rename_i i j
      cases intO_some ho
      obtain ⟨x, y, rfl, r1, r2⟩ := ro2 hu
      cases r1.int
      cases r2.int
      refine .inl ⟨i, j, rfl, ?_⟩
      have e : (if j > i then j else i) = max i j := by split <;> omega
      rw [e]
      exact post _ (.int _)
    · split at ho
      · rename_i ns hn
        obtain ⟨m, hm, h2⟩ := bind_some ho
        cases intO_some h2
        obtain ⟨a, ys, rfl, h1, h2⟩ := roL s hu
        cases intsOf_reps hn h2
        cases ns with
        | nil => cases hm
        | cons z zs =>
          obtain ⟨k1, k2⟩ := foldl_max zs z
          cases hm
          refine .inr (.inl ⟨a, z :: zs, rfl, h1, Nat.succ_pos _, fun m' hm' hle => ?_⟩)
          have e : m' = zs.foldl max z := Int.le_antisymm (k2 m' hm') (hle _ k1)
          rw [e]
          exact post _ (.int _)
      · cases ho
    · split at ho
      · rename_i ns hn
        obtain ⟨m, hm, h2⟩ := bind_some ho
        cases intO_some h2
        obtain ⟨a, ys, rfl, _, h1, h2⟩ := roT s hu
        cases intsOf_reps hn h2
        cases ns with
        | nil => cases hm
        | cons z zs =>
          obtain ⟨k1, k2⟩ := foldl_max zs z
          cases hm
          refine .inr (.inr ⟨a, z :: zs, rfl, h1, Nat.succ_pos _, fun m' hm' hle => ?_⟩)
          have e : m' = zs.foldl max z := Int.le_antisymm (k2 m' hm') (hle _ k1)
          rw [e]
          exact post _ (.int _)
      · cases ho
    · cases ho
theorem bltMin (hc : X.calm = true) : CallR X (.builtin "min") (rC X.K minD) :=
  ((call_min2 hc).or (cr_min hc)).imp fun xs H Q ⟨B, us, o, s, hu, ho, post⟩ => by
    unfold minD at ho
    split at ho
    · rename_i i j
      cases intO_some ho
      obtain ⟨x, y, rfl, r1, r2⟩ := ro2 hu
      cases r1.int
      cases r2.int
      refine .inl ⟨i, j, rfl, ?_⟩
      have e : (if j < i then j else i) = min i j := by split <;> omega
      rw [e]
      exact post _ (.int _)
    · split at ho
      · rename_i ns hn
        obtain ⟨m, hm, h2⟩ := bind_some ho
        cases intO_some h2
        obtain ⟨a, ys, rfl, h1, h2⟩ := roL s hu
        cases intsOf_reps hn h2
        cases ns with
        | nil => cases hm
        | cons z zs =>
          obtain ⟨k1, k2⟩ := foldl_min zs z
          cases hm
          refine .inr ⟨a, z :: zs, rfl, h1, Nat.succ_pos _, fun m' hm' hle => ?_⟩
          have e : m' = zs.foldl min z := Int.le_antisymm (hle _ k1) (k2 m' hm')
          rw [e]
          exact post _ (.int _)
      · cases ho
    · cases ho
theorem bltSum (hc : X.calm = true) : CallR X (.builtin "sum") (rC X.K sumD) :=
  (cr_sum hc).imp fun xs H Q ⟨B, us, o, s, hu, ho, post⟩ => by
    unfold sumD at ho
    split at ho
    · split at ho
      · rename_i ns hn
        cases intO_some ho
        obtain ⟨a, ys, rfl, h1, h2⟩ := roL s hu
        cases intsOf_reps hn h2
        exact ⟨a, ns, rfl, h1, post _ (.int _)⟩
      · cases ho
    · cases ho
theorem bltAny (hc : X.calm = true) : CallR X (.builtin "any") (rC X.K anyD) :=
  (cr_any hc).imp fun xs H Q ⟨B, us, o, s, hu, ho, post⟩ => by
    unfold anyD at ho
    split at ho
    · split at ho
      · rename_i ns hn
        cases boolO_some ho
        obtain ⟨a, ys, rfl, h1, h2⟩ := roL s hu
        cases boolsOf_reps hn h2
        exact ⟨a, ns, rfl, h1, post _ (.bl _)⟩
      · cases ho
    · cases ho
theorem bltAll (hc : X.calm = true) : CallR X (.builtin "all") (rC X.K allD) :=
  (cr_all hc).imp fun xs H Q ⟨B, us, o, s, hu, ho, post⟩ => by
    unfold allD at ho
    split at ho
    · split at ho
      · rename_i ns hn
        cases boolO_some ho
        obtain ⟨a, ys, rfl, h1, h2⟩ := roL s hu
        cases boolsOf_reps hn h2
        exact ⟨a, ns, rfl, h1, post _ (.bl _)⟩
      · cases ho
    · cases ho
theorem bltList (hc : X.calm = true) : CallR X (.type "list") (rC X.K listD) :=
  (call_list_of.or (cr_listDict hc)).imp fun xs H Q ⟨B, us, o, s, hu, ho, post⟩ => by
    unfold listD at ho
    split at ho
    · cases ho
      obtain ⟨a, ys, rfl, h1, h2⟩ := roL s hu
      exact .inl ⟨a, ys, rfl, .inl h1, fun l hl => post l _ hl h2⟩
    · cases ho
      obtain ⟨a, ys, rfl, _, h1, h2⟩ := roT s hu
      exact .inl ⟨a, ys, rfl, .inr h1, fun l hl => post l _ hl h2⟩
    · cases ho
      obtain ⟨y, rfl, r1⟩ := ro1 hu
      exact .inr ⟨B, _, y, rfl, s, r1.dicD s, fun l vs hl r => post l vs hl r⟩
    · cases ho
/-- tuple(x), the new tuple known -/
theorem call_tupleX : CallR X (.type "tuple") (fun xs H Q => ∃ p ys, xs = [.ref p] ∧ ((SqL X.K H p ys ∧ ∀ l o, H l = none → o.dict = none → Q (.ref l) (upd H l (.frz o (.tup ys)))) ∨ (SqT X.K H p ys ∧ Q (.ref p) H))) := by
  intro pins s σ H xs us Q I r ⟨p, ys, ex, h⟩
  subst ex
  obtain ⟨u, rfl, rx⟩ := vals1 r
  cases rx
  rcases h with ⟨hq, q⟩ | ⟨hq, q⟩
  · obtain ⟨its, rv, pl, hz⟩ := I.list hq
    refine call_tuple_list pl.isList (fun h' kp => ?_) (by have := rv.length; simp only [List.size_toArray]; omega)
    have I1 : Inv X pins σ H { s with heap := h' } := I.kept (t' := s.toks) kp
    exact ⟨.ref h'.objs.size, _, I1.laid (t' := s.toks) (o := .frz (tobj its.toArray 0) (.tup ys)) (fun b o e => Heap.get?_push_of_some _ e) (Nat.le_refl _)
      ⟨Heap.get?_push_size h' rfl, hz, its, rv, IsTup.new _ _⟩, rfl, q _ _ (I1.hok.fresh (Nat.le_refl _)) rfl⟩
  · obtain ⟨its, _, pl, _⟩ := I.tuple hq
    exact call_tuple_same pl ⟨.ref p, H, I, rfl, q⟩
/-- divmod(i, j), the new pair known -/
theorem call_divmodX : CallR X (.builtin "divmod") (fun xs H Q => ∃ i j, xs = [.int i, .int j] ∧ CDiv i j ∧ ∀ p o, H p = none → o.dict = none → Q (.ref p) (upd H p (.frz o (.tup [.int (i / j), .int (i % j)])))) := by
  intro pins s σ H xs us Q I r ⟨i, j, ex, ⟨h1, h2⟩, q⟩
  subst ex
  obtain ⟨u, w', rfl, ⟨t, rfl⟩, ⟨t', rfl⟩⟩ := vals2 r
  refine divmod_int (by omega) ?_ (.inl (PyProof.noPylong_small (by omega)))
  rw [Int.fdiv_eq_ediv_of_nonneg i (by omega), Int.fmod_eq_emod_of_nonneg i (by omega)]
  exact ⟨.ref s.heap.objs.size, _, I.laid (o := .frz (tobj #[.int (i / j) s.toks, .int (i % j) (s.toks + 1)] 0) (.tup [.int (i / j), .int (i % j)])) (fun b o e => Heap.get?_push_of_some _ e) (Nat.le_refl _)
    ⟨Heap.get?_push_size s.heap rfl, by simp only [List.length_cons, List.length_nil]; rw [sizeLine_eq]; decide, [.int (i / j) s.toks, .int (i % j) (s.toks + 1)], .cons ⟨_, rfl⟩ (.cons ⟨_, rfl⟩ .nil), IsTup.new _ _⟩, rfl, q _ _ (I.hok.fresh (Nat.le_refl _)) rfl⟩
theorem bltTuple : CallR X (.type "tuple") (rC X.K tupleD) :=
  call_tupleX.imp fun xs H Q ⟨B, us, o, s, hu, ho, post⟩ => by
    unfold tupleD at ho
    split at ho
    · cases ho
      obtain ⟨a, ys, rfl, h1, h2⟩ := roL s hu
      exact ⟨a, ys, rfl, .inl ⟨h1, fun l o hl ho => post.2 l _ o hl ho h2⟩⟩
    · cases ho
      obtain ⟨a, ys, rfl, h0, h1, h2⟩ := roT s hu
      exact ⟨a, ys, rfl, .inr ⟨h1, post _ (.tup h0 h2)⟩⟩
    · cases ho
theorem bltDivmod : CallR X (.builtin "divmod") (rC X.K divmodD) :=
  call_divmodX.imp fun xs H Q ⟨B, us, o, s, hu, ho, post⟩ => by
    unfold divmodD at ho
    split at ho
    · split at ho
      · rename_i hd
        cases ho
        obtain ⟨x, y, rfl, r1, r2⟩ := ro2 hu
        cases r1.int
        cases r2.int
        exact ⟨_, _, rfl, hd, fun p o hp ho => post.2 p _ o hp ho (.cons (.int _) (.cons (.int _) .nil))⟩
      · cases ho
    · cases ho
theorem bltStr : CallR X (.type "str") (rC X.K strFD) :=
  call_str_int.imp fun xs H Q ⟨B, us, o, s, hu, ho, post⟩ => by
    unfold strFD at ho
    split at ho
    · split at ho
      · rename_i hd
        cases ho
        obtain ⟨x, rfl, r1⟩ := ro1 hu
        cases r1.int
        exact ⟨_, rfl, hd, post _ (.str _)⟩
      · cases ho
    · cases ho
/-- sorted of a dict whose keys are ints -/
theorem cr_sortedDi (hc : X.calm = true) : CallR X (.builtin "sorted") (fun xs H Q => ∃ B ps y ns, xs = [y] ∧ Same B H ∧ DRep X.K B H y ps ∧ intsOf (ps.map (·.1)) = some ns ∧ ∀ (ns' : List Int) (p : Addr), ns'.Perm ns → ns'.Pairwise (· ≤ ·) → H p = none → Q (.ref p) (upd H p (.lst (ns'.map V.int)))) := by
  intro pins s σ H xs us Q I r ⟨B, ps, y, ns, ex, sB, hy, hns, q⟩
  subst ex
  obtain ⟨a, es, ep, ks, rfl, hd, raw, hs, hz, rk, he⟩ := dic_raw I sB hy
  have hks : ks = ns.map V.int := intsOf_reps hns rk
  have hlen : ks.length = ps.length := by have := rk.length; rw [List.length_map] at this; exact this
  rw [Vals.ref1 r]
  refine Calls.call_function_entry PyProof.Rows.kind_sorted PyProof.Rows.plain_sorted PyProof.Rows.entry_sorted (PyProof.Rows.args_sorted1 _) ?_
  unfold Builtin.«sorted»
  refine wpAny_bind (m := checkCount "sorted" 1 1 _) (wpAny_pure (wpAny_bind (PySem.W.kdu_collect (A := X.A.in1) (KdlSrc.rawDict hd) (I.ok.hd hc) raw (by omega) fun h1 tk acc old hacc => ?_)))
  have hsz : acc.toList.length = ks.length := by have := hacc.1; rw [Array.length_toList]; omega
  have rv : Vals ks acc.toList := by
    have go : ∀ (ks : List V) (us : List Value), us.length = ks.length → (∀ (i : Nat) (u : Value), us[i]? = some u → ∃ v, ks[i]? = some v ∧ RelV v u) → Vals ks us := by
      intro ks
      induction ks with
      | nil => intro us h _; cases us with
        | nil => exact .nil
        | cons _ _ => simp at h
      | cons k ks ih => intro us h hh; cases us with
        | nil => simp at h
        | cons u us =>
          obtain ⟨v, v1, v2⟩ := hh 0 u rfl
          simp at v1; subst v1
          exact .cons v2 (ih us (by simpa using h) fun i u hu => by simpa using hh (i + 1) u (by simpa using hu))
    refine go ks _ hsz fun i u hu => ?_
    obtain ⟨hi2, e2⟩ := hacc.2 i u (by rw [← Array.getElem?_toList]; exact hu)
    obtain ⟨v, v1, v2⟩ := he i hi2
    exact ⟨v, v1, by rw [e2]; exact v2⟩
  rw [hks] at rv
  have hi := rv.ints
  have hz2 : acc.toList.length ≤ sizeLine := by omega
  refine wpAny_bind (wpAny_newList ?_ hz2)
  have at1 : (h1.push { cls := .type "list", data := .seq acc.toList.toArray }).get? h1.objs.size = some (PyProof.Rows.seqObj "list" acc.toList.toArray 0) := Heap.get?_push_size _ rfl
  refine wpAny_bind (wpAny_holding (wpAny_call_entry PyProof.Rows.slot_list_sort ⟨_, at1, rfl⟩ PyProof.Rows.entry_list_sort (SrtO.list_sort_ord SrtO.swo_int at1 hz2 (fun h2 => SrtO.ints_sortable hi h2) fun out s1 s2 => ⟨_, rfl, wpAny_pure ⟨_, rfl, ?_⟩⟩) (PyProof.Rows.args_list_sort _)))
  obtain ⟨k1, k2, k3⟩ := SrtO.ints_out hi s1 s2
  obtain ⟨e2, at2⟩ := PyProof.Rows.sortedHeap_at (vs := acc.toList) (out := out.toArray) at1
  have hnl : ns.length = ks.length := by rw [hks, List.length_map]
  have len : ((out.map SrtO.iv).map V.int).length ≤ sizeLine := by
    rw [List.length_map, k2.length_eq]
    omega
  have I1 : L2.Inv X pins σ H { s with heap := h1, toks := tk } := I.kept (t' := tk) old
  have keep : ∀ b u, h1.get? b = some u → (PyProof.Rows.sortedHeap (h1.push { cls := .type "list", data := .seq acc.toList.toArray }) h1.objs.size acc.toList out.toArray).get? b = some u := fun b u e1 => by
    have lt := Heap.lt_size e1
    rw [PyProof.Rows.sortedHeap_old (Nat.ne_of_lt lt) (Nat.lt_of_lt_of_le lt (by rw [Heap.size_push]; exact Nat.le_succ _))]
    exact Heap.get?_push_of_some _ e1
  exact ⟨.ref h1.objs.size, upd H h1.objs.size (.lst ((out.map SrtO.iv).map V.int)), I1.laid (t' := tk) keep (Nat.le_refl _) ⟨len, out, e2, vals_of_ints k1, at2⟩, rfl, q _ _ k2 k3 (I1.hok.fresh (Nat.le_refl _))⟩
theorem bltSorted (hc : X.calm = true) (hu0 : X.A.units + 65 < cLine) : CallR X (.builtin "sorted") (rC X.K sortedD) :=
  ((((cr_sortedI.or (cr_sortedK (by omega))).or cr_sortedTi).or (cr_sortedDi hc)).or (cr_sortedA (by omega))).imp fun xs H Q ⟨B, us, o, s, hu, ho, post⟩ => by
    unfold sortedD at ho
    split at ho
    · split at ho
      · rename_i ns hn
        cases ho
        obtain ⟨a, ys, rfl, h1, h2⟩ := roL s hu
        cases intsOf_reps hn h2
        refine .inl (.inl (.inl (.inl ⟨a, ns, rfl, h1, fun ns' p hp hs hn' => ?_⟩)))
        have e : ns' = sortI ns := sorted_unique (hp.trans (sortI_perm ns).symm) hs (sortI_sorted ns)
        subst e
        exact post p _ hn' (reps_ints _)
      · split at ho
        · rename_i hk
          cases ho
          obtain ⟨a, ys, rfl, h1, h2⟩ := roL s hu
          obtain ⟨c, cs, hall⟩ := keysOk_all hk
          have h2' := Reps.mono s h2
          exact .inl (.inl (.inl (.inr ⟨a, ys, _, c, cs, rfl, h1, h2', hall, fun k zs p hz hs hp hn' => post p _ hn' (sorted_data h2 hall hz hs hp)⟩)))
        · unfold sortAD at ho
          split at ho
          · rename_i hk
            cases ho
            obtain ⟨a, ys, rfl, h1, h2⟩ := roL s hu
            have h2' := Reps.mono s h2
            exact .inr ⟨a, ys, _, rfl, h1, h2', hk, fun zs p hz hn' => post p _ hn' (zip_rep h2 hz)⟩
          · cases ho
    · split at ho
      · rename_i ns hn
        cases ho
        obtain ⟨a, ys, rfl, _, h1, h2⟩ := roT s hu
        cases intsOf_reps hn h2
        refine .inl (.inl (.inr ⟨a, ns, rfl, h1, fun ns' p hp hs hn' => ?_⟩))
        have e : ns' = sortI ns := sorted_unique (hp.trans (sortI_perm ns).symm) hs (sortI_sorted ns)
        subst e
        exact post p _ hn' (reps_ints _)
      · cases ho
    · split at ho
      · rename_i ns hn
        cases ho
        obtain ⟨y, rfl, r1⟩ := ro1 hu
        refine .inl (.inr ⟨B, _, y, ns, rfl, s, r1.dicD s, hn, fun ns' p hp hs hn' => ?_⟩)
        have e : ns' = sortI ns := sorted_unique (hp.trans (sortI_perm ns).symm) hs (sortI_sorted ns)
        subst e
        exact post p _ hn' (reps_ints _)
      · cases ho
    · cases ho
/-- every built-in of the list, called -/
theorem bltOk (hc : X.calm = true) (hu : X.A.units + 65 < cLine) (b : Blt) : CallR X b.value (rC X.K b.run) := by
  cases b
  case len => exact bltLen
  case int => exact bltInt
  case abs => exact bltAbs
  case max => exact bltMax hc
  case min => exact bltMin hc
  case sum => exact bltSum hc
  case any => exact bltAny hc
  case all => exact bltAll hc
  case list => exact bltList hc
  case tuple => exact bltTuple
  case divmod => exact bltDivmod
  case str => exact bltStr
  case sorted => exact bltSorted hc hu
theorem bltBoot (b : Blt) : bootBuiltins b.name = some b.value := by
  cases b <;> decide +kernel
theorem bltNames (b : Blt) : b.name ≠ "__name__" ∧ (b.name == ("__debug__" : Str)) = false := by
  cases b <;> decide
end
end PyI

namespace PyI
open PySem PySem.Spec L2 PyProof.Rows

/-! ## expressions: the readings of each form -/
def fVar (i : Nat) : M PyData := fun env =>
  match env[i]? with
  | some (.val d) => some (.ok d env)
  | some (.ob c) => some (.ok (cD c) (env.set i (.val (cD c))))
  | _ => none
def oVar (i : Nat) : M Opd := fun env =>
  match env[i]? with
  | some (.val _) => some (.ok (.slot i) env)
  | some (.ob _) => some (.ok (.slot i) env)
  | _ => none
def unfz (f : M PyData) : M (PyData × Bool) := fun env => bnd (f env) fun d e => some (.ok (d, false) e)
def fCst (d : PyData) : M PyData := fun env => some (.ok d env)
section
variable {X : Cx} {W : WX}
theorem unfz_ok {e : Expr} {f : M PyData} (h : PE X e (tD X W f)) : PE X e (tE X W (unfz f)) := h.imp fun σ H Q ⟨H0, B0, fx, B, env, r, S, hr, post⟩ => by
  unfold unfz at hr
  rcases bnd_some hr with ⟨d, e1, h1, h2⟩ | ⟨c, e1, h1, rfl⟩
  · cases h2
    exact ⟨H0, B0, fx, B, env, _, S, h1, post⟩
  · exact ⟨H0, B0, fx, B, env, _, S, h1, post⟩
theorem var_ok {i : Nat} {x : PySem.Str} {pos : Pos} (hN : X.N[i]? = some x) (hv : Vis X.env.scope x) (hd : (x == ("__debug__" : PySem.Str)) = false) (hcd : (x == ("__classdict__" : PySem.Str)) = false) : PE X (.Name x pos) (tD X W (fVar i)) :=
  (pe_var hN hv hd hcd).imp fun σ H Q ⟨H0, B0, fx, B, env, r, S, hr, post⟩ => by
    unfold fVar at hr
    split at hr
    · rename_i d e
      cases hr
      obtain ⟨v, h1, h2⟩ := S.val e
      exact ⟨v, h1, post v H B (Same.refl B) S h2⟩
    · rename_i ds e
      cases hr
      obtain ⟨p, vs, h1, h2, h3, h4⟩ := S.frzSlot e
      exact ⟨.ref p, h1, post _ H _ h3 h4 h2⟩
    · cases hr
theorem ovar_ok {i : Nat} {x : PySem.Str} {pos : Pos} (hN : X.N[i]? = some x) (hv : Vis X.env.scope x) (hd : (x == ("__debug__" : PySem.Str)) = false) (hcd : (x == ("__classdict__" : PySem.Str)) = false) : PE X (.Name x pos) (tO X W (oVar i)) :=
  (pe_var hN hv hd hcd).imp fun σ H Q ⟨H0, B0, fx, B, env, r, S, hr, post⟩ => by
    unfold oVar at hr
    split at hr
    · rename_i d e
      cases hr
      obtain ⟨v, h1, h2⟩ := S.val e
      exact ⟨v, h1, post v H B (Same.refl B) S h1⟩
    · rename_i ds e
      cases hr
      obtain ⟨p, vs, h1, h2, _⟩ := S.ob e
      exact ⟨.ref p, h1, post _ H _ (Same.refl B) S h1⟩
    · cases hr
/-- a constant of the text -/
def constD : Const → Option PyData
  | .none => some .none
  | .bool b => some (.bool b)
  | .int i => some (.int i)
  | .str x => some (.str x)
  | _ => none
theorem cst_of {e : Expr} {v : V} {d : PyData} (h : PE X e (tC v)) (r : ∀ K H, Rep K H v d) : PE X e (tD X W (fCst d)) :=
  h.imp fun σ H Q ⟨H0, B0, fx, B, env, rr, S, hr, post⟩ => by
    cases hr
    exact post v H B (Same.refl B) S (r _ _)
theorem cst_ok {c : Const} {d : PyData} {k : Nat} {pos : Pos} (h : constD c = some d) : PE X (.Constant c k pos) (tD X W (fCst d)) := by
  cases c <;> cases h
  · exact cst_of pe_non fun _ _ => .non
  · exact cst_of pe_bl fun _ _ => .bl _
  · exact cst_of pe_int fun _ _ => .int _
  · exact cst_of pe_str fun _ _ => .str _
/-- a constant of the module -/
def GlobOk (X : Cx) (x : PySem.Str) (d : PyData) : Prop := ∃ u v, X.mg x = some u ∧ RelV v u ∧ ∀ H, Rep X.K H v d
theorem glob_ok {x : PySem.Str} {d : PyData} {pos : Pos} (hg : Gl X x) (h : GlobOk X x d) (hd : (x == ("__debug__" : PySem.Str)) = false) : PE X (.Name x pos) (tD X W (fCst d)) := by
  obtain ⟨u, v, hm, r, h⟩ := h
  exact (pe_glob hg hm r hd).imp fun σ H Q ⟨H0, B0, fx, B, env, rr, S, hr, post⟩ => by
    cases hr
    exact post v H B (Same.refl B) S (h _)

/-! ### rows of expressions -/
def vNil : M (List PyData) := fun env => some (.ok [] env)
def vCons (f : M PyData) (g : M (List PyData)) : M (List PyData) := fun env => bnd (f env) fun d e1 => bnd (g e1) fun ds e2 => some (.ok (d :: ds) e2)
def aNil : M (List Opd) := fun env => some (.ok [] env)
def aCons (f : M Opd) (g : M (List Opd)) : M (List Opd) := fun env => bnd (f env) fun d e1 => bnd (g e1) fun ds e2 => some (.ok (d :: ds) e2)
theorem vnil_ok : PA X [] (tV X W vNil) := pa_nil.imp fun σ H Q ⟨H0, B0, fx, B, env, rr, S, hr, post⟩ => by
  cases hr
  exact post [] H B (Same.refl B) S .nil
theorem anil_ok : PA X [] (tA X W aNil) := pa_nil.imp fun σ H Q ⟨H0, B0, fx, B, env, rr, S, hr, post⟩ => by
  cases hr
  exact post [] H B (Same.refl B) S .nil
theorem vcons_ok {e : Expr} {es : List Expr} {f : M PyData} {g : M (List PyData)} (h1 : PE X e (tD X W f)) (h2 : PA X es (tV X W g)) (hs : starEach (e :: es) X.env = (false, eval e X.env) :: starEach es X.env) : PA X (e :: es) (tV X W (vCons f g)) :=
  (pa_cons h1 h2 hs).imp fun σ H Q ⟨H0, B0, fx, B, env, rr, S, hr, post⟩ => by
    unfold vCons at hr
    rcases bnd_some hr with ⟨d, e1, k1, k2⟩ | ⟨c, e1, k1, rfl⟩
    · refine ⟨H0, B0, fx, B, env, _, S, k1, fun v H1 B1 s1 S1 r1 => ?_⟩
      rcases bnd_some k2 with ⟨ds, e2, k3, k4⟩ | ⟨c, e2, k3, rfl⟩
      · cases k4
        exact ⟨H0, B0, fx, B1, e1, _, S1, k3, fun vs H2 B2 s2 S2 r2 => post _ H2 B2 (s1.trans s2) S2 (.cons (r1.mono s2) r2)⟩
      · exact ⟨H0, B0, fx, B1, e1, _, S1, k3, fun H' B' a s2 S2 hm => post H' B' a (s1.trans s2) S2 hm⟩
    · exact ⟨H0, B0, fx, B, env, _, S, k1, post⟩
theorem acons_ok {e : Expr} {es : List Expr} {f : M Opd} {g : M (List Opd)} (h1 : PE X e (tO X W f)) (h2 : PA X es (tA X W g)) (hs : starEach (e :: es) X.env = (false, eval e X.env) :: starEach es X.env) : PA X (e :: es) (tA X W (aCons f g)) :=
  (pa_cons h1 h2 hs).imp fun σ H Q ⟨H0, B0, fx, B, env, rr, S, hr, post⟩ => by
    unfold aCons at hr
    rcases bnd_some hr with ⟨d, e1, k1, k2⟩ | ⟨c, e1, k1, rfl⟩
    · refine ⟨H0, B0, fx, B, env, _, S, k1, fun v H1 B1 s1 S1 r1 => ?_⟩
      rcases bnd_some k2 with ⟨ds, e2, k3, k4⟩ | ⟨c, e2, k3, rfl⟩
      · cases k4
        exact ⟨H0, B0, fx, B1, e1, _, S1, k3, fun vs H2 B2 s2 S2 r2 => post _ H2 B2 (s1.trans s2) S2 (.cons (r1.mono s2) r2)⟩
      · exact ⟨H0, B0, fx, B1, e1, _, S1, k3, fun H' B' a s2 S2 hm => post H' B' a (s1.trans s2) S2 hm⟩
    · exact ⟨H0, B0, fx, B, env, _, S, k1, post⟩

/-! ### displays -/
def fTup (g : M (List PyData)) : M (PyData × Bool) := fun env => bnd (g env) fun ds e => if ds.length ≤ sizeLine then some (.ok (.tuple ds, false) e) else none
def fLst (g : M (List PyData)) : M (PyData × Bool) := fun env => bnd (g env) fun ds e => if ds.length ≤ sizeLine then some (.ok (.list ds, true) e) else none
/-- a written tuple, known -/
def tTupX (t : TA) : TE := fun σ H Q => t σ H fun xs H1 => xs.length ≤ sizeLine ∧ ∀ p o, H1 p = none → o.dict = none → Q (.ref p) (upd H1 p (.frz o (.tup xs)))
theorem pe_tupX {es : List Expr} {t : TA} {k : Nat} {pos : Pos} (h : PA X es t) : PE X (.Tuple es k pos) (tTupX t) :=
  ⟨fun pins s σ H Q I hq => wpAny_Tuple_spliced (thn (h.run pos pins s σ H _ I hq) fun us s1 ⟨xs, H1, I1, r, z, q⟩ => ⟨by rw [← r.length]; exact z,
    ⟨.ref s1.heap.objs.size, _, I1.laid (t' := s1.toks) (o := .frz (tobj us.toArray 0) (.tup xs)) (fun b u e => Heap.get?_push_of_some _ e) (Nat.le_refl _) ⟨Heap.get?_push_size _ rfl, z, us, r, IsTup.new _ _⟩, rfl, q _ _ (I1.hok.fresh (Nat.le_refl _)) rfl⟩⟩)⟩
theorem tup_ok {es : List Expr} {g : M (List PyData)} {k : Nat} {pos : Pos} (h : PA X es (tV X W g)) : PE X (.Tuple es k pos) (tE X W (fTup g)) :=
  (pe_tupX h).imp fun σ H Q ⟨H0, B0, fx, B, env, rr, S, hr, post⟩ => by
    unfold fTup at hr
    rcases bnd_some hr with ⟨ds, e1, k1, k2⟩ | ⟨c, e1, k1, rfl⟩
    · split at k2
      · rename_i hz
        cases k2
        refine ⟨H0, B0, fx, B, env, _, S, k1, fun vs H1 B1 s1 S1 r1 => ⟨by rw [r1.length]; exact hz, fun p o hp ho => ?_⟩⟩
        have sB : Same B1 (upd B1 p (.frz o (.tup vs))) := same_upd (none_of_same S1.h.sub hp)
        exact post _ _ _ (s1.trans sB) (S1.alloc hp) (.tup (XT.of upd_same ho) (r1.mono sB))
      · cases k2
    · exact ⟨H0, B0, fx, B, env, _, S, k1, post⟩
theorem lst_ok {es : List Expr} {g : M (List PyData)} {pos : Pos} (h : PA X es (tV X W g)) : PE X (.List es pos) (tE X W (fLst g)) :=
  (pe_lst h).imp fun σ H Q ⟨H0, B0, fx, B, env, rr, S, hr, post⟩ => by
    unfold fLst at hr
    rcases bnd_some hr with ⟨ds, e1, k1, k2⟩ | ⟨c, e1, k1, rfl⟩
    · split at k2
      · rename_i hz
        cases k2
        exact ⟨H0, B0, fx, B, env, _, S, k1, fun vs H1 B1 s1 S1 r1 => ⟨by rw [r1.length]; exact hz, fun p hp => post p _ (.lst ds) _ B1 rfl s1 (S1.fresh hp) (.lst r1)⟩⟩
      · cases k2
    · exact ⟨H0, B0, fx, B, env, _, S, k1, post⟩

/-! ### operators -/
theorem binop_ok {a b : Expr} {op : Operator} {pos : Pos} {fa fb : M Opd} (ha : PE X a (tO X W fa)) (hb : PE X b (tO X W fb)) : PE X (.BinOp a op b pos) (tE X W (fBin (binD op) fa fb)) :=
  (pe_op (opBin op) ha hb).imp (bin_ok fun _ _ _ _ h => h)
theorem unop_ok {a : Expr} {op : UnaryOp} {pos : Pos} {fa : M Opd} (ha : PE X a (tO X W fa)) : PE X (.UnaryOp op a pos) (tE X W (fUn (unD op) fa)) :=
  (pe_un (opUn op) ha).imp (un_ok fun _ _ _ h => h)
theorem cmp_ok {a b : Expr} {op : CmpOp} {pos : Pos} {fa fb : M Opd} (hu : X.A.units + 65 < cLine) (ha : PE X a (tO X W fa)) (hb : PE X b (tO X W fb)) (hm : behindInMarks op b = false) : PE X (.Compare a [op] [b] pos) (tE X W (fBin (cmpD op) fa fb)) :=
  (pe_cmpR (opCmp hu op) ha hb hm).imp (bin_ok fun _ _ _ _ h => h)
/-- a bool for a test -/
def fTst (f : M (PyData × Bool)) : M Bool := fun env => bnd (f env) fun a e =>
  match a.1 with
  | .bool b => some (.ok b e)
  | _ => none
theorem tst_ok {f : M (PyData × Bool)} : ∀ σ H Q, tT X W (fTst f) σ H Q → tE X W f σ H fun x H' => ∃ k, x = .bl k ∧ Q k H' := by
  intro σ H Q ⟨H0, B0, fx, B, env, rr, S, hr, post⟩
  unfold fTst at hr
  rcases bnd_some hr with ⟨⟨d, fr⟩, e1, k1, k2⟩ | ⟨c, e1, k1, rfl⟩
  · simp only at k2
    split at k2
    · cases k2
      refine ⟨H0, B0, fx, B, env, _, S, k1, ?_⟩
      cases fr with
      | false => exact fun v H' B' s S' r => by cases r; exact ⟨_, rfl, post H' B' s S'⟩
      | true => intro p vs ds H' B' e; cases ds <;> cases e
    · cases k2
  · exact ⟨H0, B0, fx, B, env, _, S, k1, post⟩
theorem tcmp_ok {a b : Expr} {op : CmpOp} {pos : Pos} {fa fb : M Opd} (hu : X.A.units + 65 < cLine) (ha : PE X a (tO X W fa)) (hb : PE X b (tO X W fb)) (hm : behindInMarks op b = false) : PT X (.Compare a [op] [b] pos) (tT X W (fTst (fBin (cmpD op) fa fb))) :=
  (pt_cmpR (opCmp hu op) ha hb hm).imp fun σ H Q h => bin_ok (fun _ _ _ _ h => h) σ H _ (tst_ok σ H Q h)

/-- a op b op' c -/
def fChain (op op' : B2) (fa fb fc : M Opd) : M (PyData × Bool) := fun env => bnd (fa env) fun x e1 => bnd (fb e1) fun y e2 =>
  match getO e2 x, getO e2 y with
  | some u, some v =>
    match op u v with
    | some (.old (.bool true)) => bnd (fc e2) fun z e3 =>
      match getO e3 y, getO e3 z with
      | some v', some w => (op' v' w).map (orR e3)
      | _, _ => none
    | some (.old (.bool false)) => some (.ok (.bool false, false) e2)
    | _ => none
  | _, _ => none
theorem chain_of {op op' : B2} {fa fb fc : M Opd} : ∀ σ H Q, tE X W (fChain op op' fa fb fc) σ H Q → tChain (rD X.K op) (rD X.K op') (tO X W fa) (tO X W fb) (tO X W fc) σ H Q := by
  intro σ H Q ⟨H0, B0, fx, B, env, rr, S, h, post⟩
  unfold fChain at h
  rcases bnd_some h with ⟨x, e1, h1, h2⟩ | ⟨c, e1, h1, rfl⟩
  · refine ⟨H0, B0, fx, B, env, _, S, h1, fun vx H1 B1 s1 S1 o1 => ?_⟩
    rcases bnd_some h2 with ⟨y, e2, h3, h4⟩ | ⟨c, e2, h3, rfl⟩
    · refine ⟨H0, B0, fx, B1, e1, _, S1, h3, fun vy H2 B2 s2 S2 o2 => ?_⟩
      split at h4
      · rename_i u v hu hv
        split at h4
        · rename_i ho
          refine ⟨B2, u, v, _, S2.h.sub, (o1.mono s2).get S2 hu, o2.get S2 hv, ho, fun z r => ?_⟩
          cases r
          refine ⟨true, rfl, ?_⟩
          rw [if_pos rfl]
          rcases bnd_some h4 with ⟨z, e3, h5, h6⟩ | ⟨c, e3, h5, rfl⟩
          · refine ⟨H0, B0, fx, B2, e2, _, S2, h5, fun vz H3 B3 s3 S3 o3 => ?_⟩
            split at h6
            · rename_i v' w hv' hw
              cases ho' : op' v' w with
              | none => rw [ho'] at h6; cases h6
              | some o =>
                rw [ho'] at h6; cases h6
                exact ⟨B3, v', w, o, S3.h.sub, (o2.mono s3).get S3 hv', o3.get S3 hw, ho', postOr ((s1.trans s2).trans s3) S3 post⟩
            · cases h6
          · exact ⟨H0, B0, fx, B2, e2, _, S2, h5, fun H' B' a s3 S3 hm => post H' B' a ((s1.trans s2).trans s3) S3 hm⟩
        · rename_i ho
          cases h4
          refine ⟨B2, u, v, _, S2.h.sub, (o1.mono s2).get S2 hu, o2.get S2 hv, ho, fun z r => ?_⟩
          cases r
          refine ⟨false, rfl, ?_⟩
          rw [if_neg Bool.false_ne_true]
          exact post _ H2 B2 (s1.trans s2) S2 (.bl _)
        · cases h4
      · cases h4
    · exact ⟨H0, B0, fx, B1, e1, _, S1, h3, fun H' B' a s2 S2 hm => post H' B' a (s1.trans s2) S2 hm⟩
  · exact ⟨H0, B0, fx, B, env, _, S, h1, post⟩
theorem marks2 {op op' : CmpOp} {b c : Expr} (h : behindInMarks op' c = false) : lastMarks [op, op'] [b, c] = false := h
theorem chain_ok {a b c : Expr} {op op' : CmpOp} {pos : Pos} {fa fb fc : M Opd} (hu : X.A.units + 65 < cLine) (ha : PE X a (tO X W fa)) (hb : PE X b (tO X W fb)) (hc : PE X c (tO X W fc)) (hm : behindInMarks op' c = false) :
    PE X (.Compare a [op, op'] [b, c] pos) (tE X W (fChain (cmpD op) (cmpD op') fa fb fc)) := (pe_chain (opCmp hu op) (opCmp hu op') ha hb hc (marks2 hm)).imp chain_of
theorem tchain_ok {a b c : Expr} {op op' : CmpOp} {pos : Pos} {fa fb fc : M Opd} (hu : X.A.units + 65 < cLine) (ha : PE X a (tO X W fa)) (hb : PE X b (tO X W fb)) (hc : PE X c (tO X W fc)) (hm : behindInMarks op' c = false) :
    PT X (.Compare a [op, op'] [b, c] pos) (tT X W (fTst (fChain (cmpD op) (cmpD op') fa fb fc))) := (pt_chain (opCmp hu op) (opCmp hu op') ha hb hc (marks2 hm)).imp fun σ H Q h => chain_of σ H _ (tst_ok σ H Q h)

/-! ### truth, and, or, not -/
def truD : PyData → Option Bool
  | .none => some false
  | .bool b => some b
  | .int i => some (i != 0)
  | .str x => if x.length ≤ sizeLine then some ((x.length : Int) != 0) else none
  | .list ds => some (!ds.isEmpty)
  | .tuple ds => some (!ds.isEmpty)
  | .dict _ => none
def fTru (f : M Opd) : M Bool := fun env => bnd (f env) fun o e =>
  match getO e o with
  | some d => match truD d with
    | some b => some (.ok b e)
    | none => none
  | none => none
theorem isEmpty_reps {K : PySem.W.Frag} {H : Hp} {vs : List V} {ds : List PyData} (r : Reps K H vs ds) : vs.isEmpty = ds.isEmpty := by cases r <;> rfl
theorem truV_of {K : PySem.W.Frag} {B H : Hp} {x : V} {d : PyData} {b : Bool} (s : Same B H) (h : RepO K B H x d) (t : truD d = some b) : TruV K x H b := by
  cases d with
  | none => cases h.non; cases t; exact (rfl : false = false)
  | bool c => cases h.bl; cases t; exact (rfl : b = b)
  | int i => cases h.int; cases t; exact (rfl : (i != 0) = (i != 0))
  | str z =>
    cases h.str
    have t : (if z.length ≤ sizeLine then some ((z.length : Int) != 0) else none) = some b := t
    split at t
    · rename_i hz; cases t; exact ⟨hz, rfl⟩
    · cases t
  | list ds =>
    cases t
    obtain ⟨a, xs, rfl, h1, h2⟩ := h.lst s
    exact .inl ⟨xs, h1, by rw [isEmpty_reps h2]⟩
  | tuple ds =>
    cases t
    obtain ⟨a, xs, rfl, h1, h2⟩ := h.tup
    exact .inr (.inl ⟨xs, same_seqT s h1, by rw [isEmpty_reps h2]⟩)
  | dict _ => cases t
theorem tru_ok' {a : Expr} {f : M Opd} (ha : PE X a (tO X W f)) (he : ∀ whole, isTrue a X.env whole = (do let v ← whole; standAt a.pos; holding [v] (truthy v))) : PT X a (tT X W (fTru f)) :=
  (pt_truth ha he).imp fun σ H Q ⟨H0, B0, fx, B, env, rr, S, hr, post⟩ => by
    unfold fTru at hr
    rcases bnd_some hr with ⟨o, e1, k1, k2⟩ | ⟨c, e1, k1, rfl⟩
    · split at k2
      · rename_i d hd
        split at k2
        · rename_i b hb
          cases k2
          exact ⟨H0, B0, fx, B, env, _, S, k1, fun v H' B' s S' r => ⟨b, truV_of S'.h.sub (r.get S' hd) hb, post H' B' s S'⟩⟩
        · cases k2
      · cases k2
    · exact ⟨H0, B0, fx, B, env, _, S, k1, post⟩
def mNot (f : M Bool) : M Bool := fun env => bnd (f env) fun b e => some (.ok (!b) e)
def mAnd (f g : M Bool) : M Bool := fun env => bnd (f env) fun b e => if b = true then g e else some (.ok false e)
def mOr (f g : M Bool) : M Bool := fun env => bnd (f env) fun b e => if b = true then some (.ok true e) else g e
theorem not_ok {a : Expr} {pos : Pos} {f : M Bool} (h : PT X a (tT X W f)) : PT X (.UnaryOp .Not a pos) (tT X W (mNot f)) :=
  (pt_not h).imp fun σ H Q ⟨H0, B0, fx, B, env, rr, S, hr, post⟩ => by
    unfold mNot at hr
    rcases bnd_some hr with ⟨o, e1, k1, k2⟩ | ⟨c, e1, k1, rfl⟩
    · cases k2
      exact ⟨H0, B0, fx, B, env, _, S, k1, post⟩
    · exact ⟨H0, B0, fx, B, env, _, S, k1, post⟩
theorem mAnd_of {f g : M Bool} : ∀ σ H Q, tT X W (mAnd f g) σ H Q → tAnd (tT X W f) (tT X W g) σ H Q := by
  intro σ H Q ⟨H0, B0, fx, B, env, rr, S, hr, post⟩
  unfold mAnd at hr
  rcases bnd_some hr with ⟨b, e1, k1, k2⟩ | ⟨c, e1, k1, rfl⟩
  · refine ⟨H0, B0, fx, B, env, _, S, k1, fun H1 B1 s1 S1 => ?_⟩
    by_cases hb : b = true
    · rw [if_pos hb] at k2 ⊢
      refine ⟨H0, B0, fx, B1, e1, rr, S1, k2, ?_⟩
      cases rr with
      | ok b' e2 => exact fun H' B' s2 S2 => post H' B' (s1.trans s2) S2
      | exc c e2 => exact fun H' B' a s2 S2 hm => post H' B' a (s1.trans s2) S2 hm
    · rw [if_neg hb] at k2 ⊢
      cases k2
      exact post H1 B1 s1 S1
  · exact ⟨H0, B0, fx, B, env, _, S, k1, post⟩
theorem mOr_of {f g : M Bool} : ∀ σ H Q, tT X W (mOr f g) σ H Q → tOr (tT X W f) (tT X W g) σ H Q := by
  intro σ H Q ⟨H0, B0, fx, B, env, rr, S, hr, post⟩
  unfold mOr at hr
  rcases bnd_some hr with ⟨b, e1, k1, k2⟩ | ⟨c, e1, k1, rfl⟩
  · refine ⟨H0, B0, fx, B, env, _, S, k1, fun H1 B1 s1 S1 => ?_⟩
    by_cases hb : b = true
    · rw [if_pos hb] at k2 ⊢
      cases k2
      exact post H1 B1 s1 S1
    · rw [if_neg hb] at k2 ⊢
      refine ⟨H0, B0, fx, B1, e1, rr, S1, k2, ?_⟩
      cases rr with
      | ok b' e2 => exact fun H' B' s2 S2 => post H' B' (s1.trans s2) S2
      | exc c e2 => exact fun H' B' a s2 S2 hm => post H' B' a (s1.trans s2) S2 hm
  · exact ⟨H0, B0, fx, B, env, _, S, k1, post⟩
/-- and, or, not as values: bools -/
def vNot (f : M PyData) : M PyData := fun env => bnd (f env) fun d e =>
  match d with
  | .bool b => some (.ok (.bool (!b)) e)
  | _ => none
def vAnd (f g : M PyData) : M PyData := fun env => bnd (f env) fun d e =>
  match d with
  | .bool b => if b = true then g e else some (.ok (.bool false) e)
  | _ => none
def vOr (f g : M PyData) : M PyData := fun env => bnd (f env) fun d e =>
  match d with
  | .bool b => if b = true then some (.ok (.bool true) e) else g e
  | _ => none
theorem vnot_ok {a : Expr} {pos : Pos} {f : M PyData} (h : PE X a (tD X W f)) : PE X (.UnaryOp .Not a pos) (tD X W (vNot f)) :=
  (pe_not h).imp fun σ H Q ⟨H0, B0, fx, B, env, rr, S, hr, post⟩ => by
    unfold vNot at hr
    rcases bnd_some hr with ⟨d, e1, k1, k2⟩ | ⟨c, e1, k1, rfl⟩
    · split at k2
      · cases k2
        exact ⟨H0, B0, fx, B, env, _, S, k1, fun v H' B' s S' r => by cases r; exact ⟨_, rfl, post _ H' B' s S' (.bl _)⟩⟩
      · cases k2
    · exact ⟨H0, B0, fx, B, env, _, S, k1, post⟩
theorem vAnd_of {f g : M PyData} : ∀ σ H Q, tD X W (vAnd f g) σ H Q → tAndV (tD X W f) (tD X W g) σ H Q := by
  intro σ H Q ⟨H0, B0, fx, B, env, rr, S, hr, post⟩
  unfold vAnd at hr
  rcases bnd_some hr with ⟨d, e1, k1, k2⟩ | ⟨c, e1, k1, rfl⟩
  · split at k2
    · rename_i b
      refine ⟨H0, B0, fx, B, env, _, S, k1, fun v H1 B1 s1 S1 r => ?_⟩
      cases r
      refine ⟨b, rfl, ?_⟩
      by_cases hb : b = true
      · rw [if_pos hb] at k2 ⊢
        refine ⟨H0, B0, fx, B1, e1, rr, S1, k2, ?_⟩
        cases rr with
        | ok b' e2 => exact fun v H' B' s2 S2 r => post v H' B' (s1.trans s2) S2 r
        | exc c e2 => exact fun H' B' a s2 S2 hm => post H' B' a (s1.trans s2) S2 hm
      · rw [if_neg hb] at k2 ⊢
        cases k2
        exact post _ H1 B1 s1 S1 (.bl _)
    · cases k2
  · exact ⟨H0, B0, fx, B, env, _, S, k1, post⟩
theorem vOr_of {f g : M PyData} : ∀ σ H Q, tD X W (vOr f g) σ H Q → tOrV (tD X W f) (tD X W g) σ H Q := by
  intro σ H Q ⟨H0, B0, fx, B, env, rr, S, hr, post⟩
  unfold vOr at hr
  rcases bnd_some hr with ⟨d, e1, k1, k2⟩ | ⟨c, e1, k1, rfl⟩
  · split at k2
    · rename_i b
      refine ⟨H0, B0, fx, B, env, _, S, k1, fun v H1 B1 s1 S1 r => ?_⟩
      cases r
      refine ⟨b, rfl, ?_⟩
      by_cases hb : b = true
      · rw [if_pos hb] at k2 ⊢
        cases k2
        exact post _ H1 B1 s1 S1 (.bl _)
      · rw [if_neg hb] at k2 ⊢
        refine ⟨H0, B0, fx, B1, e1, rr, S1, k2, ?_⟩
        cases rr with
        | ok b' e2 => exact fun v H' B' s2 S2 r => post v H' B' (s1.trans s2) S2 r
        | exc c e2 => exact fun H' B' a s2 S2 hm => post H' B' a (s1.trans s2) S2 hm
    · cases k2
  · exact ⟨H0, B0, fx, B, env, _, S, k1, post⟩
/-- a if t else b -/
def fIf (t : M Bool) (f g : M (PyData × Bool)) : M (PyData × Bool) := fun env => bnd (t env) fun b e => if b = true then f e else g e
theorem PostE_trans {H0 B0 : Hp} {fx : List (Addr × HO)} {B B1 : Hp} {σ : L2.St} {Q : VK} {r : Rs (PyData × Bool)} (s : Same B B1) (post : PostE X W H0 B0 fx B σ Q r) : PostE X W H0 B0 fx B1 σ Q r := by
  cases r with
  | exc c e => exact fun H' B' a s2 S2 hm => post H' B' a (s.trans s2) S2 hm
  | ok a e =>
    obtain ⟨d, b⟩ := a
    cases b with
    | false => exact fun v H' B' s2 S2 r => post v H' B' (s.trans s2) S2 r
    | true => exact fun p vs ds H' B' e s2 S2 r => post p vs ds H' B' e (s.trans s2) S2 r
theorem if_ok {c a b : Expr} {pos : Pos} {t : M Bool} {f g : M (PyData × Bool)} (hc : PT X c (tT X W t)) (ha : PE X a (tE X W f)) (hb : PE X b (tE X W g)) : PE X (.IfExp c a b pos) (tE X W (fIf t f g)) :=
  (pe_ifExp hc ha hb).imp fun σ H Q ⟨H0, B0, fx, B, env, rr, S, hr, post⟩ => by
    unfold fIf at hr
    rcases bnd_some hr with ⟨b, e1, k1, k2⟩ | ⟨c, e1, k1, rfl⟩
    · refine ⟨H0, B0, fx, B, env, _, S, k1, fun H1 B1 s1 S1 => ?_⟩
      by_cases hb : b = true
      · rw [if_pos hb] at k2 ⊢
        exact ⟨H0, B0, fx, B1, e1, rr, S1, k2, PostE_trans s1 post⟩
      · rw [if_neg hb] at k2 ⊢
        exact ⟨H0, B0, fx, B1, e1, rr, S1, k2, PostE_trans s1 post⟩
    · exact ⟨H0, B0, fx, B, env, _, S, k1, post⟩

/-! ### subscripts, slices -/
theorem ix_ok {a b : Expr} {pos : Pos} {fa fb : M Opd} (hu : X.A.units + 65 < cLine) (ha : PE X a (tO X W fa)) (hb : PE X b (tO X W fb)) (hs : PlainIx b) : PE X (.Subscript a b pos) (tE X W (fBin ixD fa fb)) :=
  (pe_ix (ixSeq hu) ha hb hs).imp (bin_ok fun _ _ _ _ h => h)
/-- a slice's bound -/
def pNo : M (Option Int) := fun env => some (.ok none env)
def pSo (f : M PyData) : M (Option Int) := fun env => bnd (f env) fun d e =>
  match d with
  | .int i => some (.ok (some i) e)
  | _ => none
def PostP (X : Cx) (W : WX) (H0 B0 : Hp) (fx : List (Addr × HO)) (B : Hp) (σ : L2.St) (Q : Option Int → Hp → Prop) : Rs (Option Int) → Prop
  | .ok b e => ∀ H' B', Same B B' → Sim X.K H0 B0 fx B' H' σ e → Q b H'
  | .exc c e => ∀ H' B' a, Same B B' → Sim X.K H0 B0 fx B' H' σ e → X.mg c = some (.ref a) → W (.ref a) none σ H'
def tP (X : Cx) (W : WX) (f : M (Option Int)) : TO := fun σ H Q => ∃ H0 B0 fx B env r, Sim X.K H0 B0 fx B H σ env ∧ f env = some r ∧ PostP X W H0 B0 fx B σ Q r
theorem _root_.L2.PO.imp {e : Option Expr} {t t' : TO} (h : PO X e t) (i : ∀ σ H Q, t' σ H Q → t σ H Q) : PO X e t' := ⟨fun pins s σ H Q I q => h.run pins s σ H Q I (i σ H Q q)⟩
theorem pno_ok : PO X none (tP X W pNo) := po_none.imp fun σ H Q ⟨H0, B0, fx, B, env, rr, S, hr, post⟩ => by
  cases hr
  exact post H B (Same.refl B) S
theorem pso_ok {e : Expr} {f : M PyData} (h : PE X e (tD X W f)) : PO X (some e) (tP X W (pSo f)) := (po_some h).imp fun σ H Q ⟨H0, B0, fx, B, env, rr, S, hr, post⟩ => by
  unfold pSo at hr
  rcases bnd_some hr with ⟨d, e1, k1, k2⟩ | ⟨c, e1, k1, rfl⟩
  · split at k2
    · cases k2
      exact ⟨H0, B0, fx, B, env, _, S, k1, fun v H' B' s S' r => by cases r; exact ⟨_, rfl, post H' B' s S'⟩⟩
    · cases k2
  · exact ⟨H0, B0, fx, B, env, _, S, k1, post⟩
def fSl (fa : M Opd) (fl fh : M (Option Int)) : M (PyData × Bool) := fun env => bnd (fa env) fun x e1 => bnd (fl e1) fun lo e2 => bnd (fh e2) fun hi e3 =>
  match getO e3 x with
  | some u => (slD u lo hi).map (orR e3)
  | none => none
theorem sl_ok {a : Expr} {lo hi : Option Expr} {p2 pos : Pos} {fa : M Opd} {fl fh : M (Option Int)} (ha : PE X a (tO X W fa)) (hl : PO X lo (tP X W fl)) (hh : PO X hi (tP X W fh)) : PE X (.Subscript a (.Slice lo hi none p2) pos) (tE X W (fSl fa fl fh)) :=
  (pe_slice slSeq ha hl hh).imp fun σ H Q ⟨H0, B0, fx, B, env, rr, S, hr, post⟩ => by
    unfold fSl at hr
    rcases bnd_some hr with ⟨x, e1, h1, h2⟩ | ⟨c, e1, h1, rfl⟩
    · refine ⟨H0, B0, fx, B, env, _, S, h1, fun vx H1 B1 s1 S1 o1 => ?_⟩
      rcases bnd_some h2 with ⟨lo, e2, h3, h4⟩ | ⟨c, e2, h3, rfl⟩
      · refine ⟨H0, B0, fx, B1, e1, _, S1, h3, fun H2 B2 s2 S2 => ?_⟩
        rcases bnd_some h4 with ⟨hi, e3, h5, h6⟩ | ⟨c, e3, h5, rfl⟩
        · refine ⟨H0, B0, fx, B2, e2, _, S2, h5, fun H3 B3 s3 S3 => ?_⟩
          split at h6
          · rename_i u hu
            cases ho : slD u lo hi with
            | none => rw [ho] at h6; cases h6
            | some o =>
              rw [ho] at h6; cases h6
              exact ⟨B3, u, o, S3.h.sub, (o1.mono (s2.trans s3)).get S3 hu, ho, postOr ((s1.trans s2).trans s3) S3 post⟩
          · cases h6
        · exact ⟨H0, B0, fx, B2, e2, _, S2, h5, fun H' B' a s3 S3 hm => post H' B' a ((s1.trans s2).trans s3) S3 hm⟩
      · exact ⟨H0, B0, fx, B1, e1, _, S1, h3, fun H' B' a s2 S2 hm => post H' B' a (s1.trans s2) S2 hm⟩
    · exact ⟨H0, B0, fx, B, env, _, S, h1, post⟩

/-! ### built-ins called -/
def fBlt (op : BN) (g : M (List Opd)) : M (PyData × Bool) := fun env => bnd (g env) fun os e =>
  match getOs e os with
  | some ds => (op ds).map (orR e)
  | none => none
theorem blt_of {op : BN} {g : M (List Opd)} : ∀ σ H Q, tE X W (fBlt op g) σ H Q → tCB (rC X.K op) (tA X W g) σ H Q := by
  intro σ H Q ⟨H0, B0, fx, B, env, rr, S, hr, post⟩
  unfold fBlt at hr
  rcases bnd_some hr with ⟨os, e1, k1, k2⟩ | ⟨c, e1, k1, rfl⟩
  · refine ⟨H0, B0, fx, B, env, _, S, k1, fun vs H1 B1 s1 S1 o1 => ?_⟩
    split at k2
    · rename_i ds hd
      cases ho : op ds with
      | none => rw [ho] at k2; cases k2
      | some o =>
        rw [ho] at k2; cases k2
        exact ⟨B1, ds, o, S1.h.sub, o1.get S1 hd, ho, postOr s1 S1 post⟩
    · cases k2
  · exact ⟨H0, B0, fx, B, env, _, S, k1, post⟩
theorem blt_ok {b : Blt} {e : Expr} {es : List Expr} {p pos : Pos} {g : M (List Opd)} (hc : X.calm = true) (hu : X.A.units + 65 < cLine) (hg : Gl X b.name) (hm : X.mg b.name = none) (ha : PA X (e :: es) (tA X W g))
    (he : starEach (e :: es) X.env = (false, eval e X.env) :: starEach es X.env) (hpl : (backTo pos (starEach es X.env)).any (·.1) = false) : PE X (.Call (.Name b.name p) (e :: es) [] pos) (tE X W (fBlt b.run g)) := by
  have hk := bltOk (X := X) hc hu b
  have hb := bltBoot b
  obtain ⟨n1, n2⟩ := bltNames b
  have key : (∃ id, b.value = .builtin id) ∨ ∃ T, b.value = .type T := by cases b <;> first | exact .inl ⟨_, rfl⟩ | exact .inr ⟨_, rfl⟩
  rcases key with ⟨id, e1⟩ | ⟨T, e1⟩
  · rw [e1] at hk hb
    exact (pe_callB hk hg hm hb ha n1 n2 he hpl).imp blt_of
  · rw [e1] at hk hb
    exact (pe_callTy hk hg hm hb ha n1 n2 he hpl).imp blt_of

/-! ### isinstance -/
inductive Tn where
  | int | bool | str | tuple | list
  deriving DecidableEq
def Tn.name : Tn → PySem.Str
  | .int => "int" | .bool => "bool" | .str => "str" | .tuple => "tuple" | .list => "list"
def Tn.ty : Tn → String
  | .int => "int" | .bool => "bool" | .str => "str" | .tuple => "tuple" | .list => "list"
def tyD : PyData → Option String
  | .none => some "NoneType"
  | .bool _ => some "bool"
  | .int _ => some "int"
  | .str _ => some "str"
  | .list _ => some "list"
  | .tuple _ => some "tuple"
  | .dict _ => none
def isD (T : Tn) : PyData → Option Bool
  | .none => some false
  | .bool _ => some (T == .bool || T == .int)
  | .int _ => some (T == .int)
  | .str _ => some (T == .str)
  | .list _ => some (T == .list)
  | .tuple _ => some (T == .tuple)
  | .dict _ => none
def fIsi (f : M Opd) (T : Tn) : M (PyData × Bool) := fun env => bnd (f env) fun o e =>
  match getO e o with
  | some d => match isD T d with
    | some b => some (.ok (.bool b, false) e)
    | none => none
  | none => none
theorem tyD_is {T : Tn} {d : PyData} {b : Bool} (h : isD T d = some b) : ∃ t, tyD d = some t ∧ kitB t T.ty = some b := by
  cases d with
  | dict _ => cases h
  | _ => exact ⟨_, rfl, by rw [← h]; simp only [isD]; cases T <;> decide +kernel⟩
theorem sqL_ty {K : PySem.W.Frag} {H : Hp} {a : Addr} {xs : List V} (h : SqL K H a xs) : TyX K H (.ref a) (.type "list") := by
  rcases h with (h | ⟨o, h⟩) | ⟨o, its, n, h1, h2, _⟩
  · exact .base (.lst h)
  · exact .base (.frz h)
  · exact .kList h1 h2
theorem sqT_ty {K : PySem.W.Frag} {H : Hp} {a : Addr} {xs : List V} (h : SqT K H a xs) : TyX K H (.ref a) (.type "tuple") := by
  rcases h with (h | ⟨o, h⟩) | ⟨o, its, n, h1, h2, _⟩
  · exact .base (.tup h)
  · exact .fTuple h
  · exact .kTuple h1 h2
theorem repO_ty {K : PySem.W.Frag} {B H : Hp} {x : V} {d : PyData} {t : String} (s : Same B H) (h : RepO K B H x d) (e : tyD d = some t) : TyX K H x (.type t) := by
  cases d with
  | none => cases h.non; cases e; exact .base .non
  | bool c => cases h.bl; cases e; exact .base (.bl _)
  | int i => cases h.int; cases e; exact .base (.int _)
  | str z => cases h.str; cases e; exact .base (.str _)
  | list ds => cases e; obtain ⟨a, xs, rfl, h1, _⟩ := h.lst s; exact sqL_ty h1
  | tuple ds => cases e; obtain ⟨a, xs, rfl, h1, _⟩ := h.tup; exact sqT_ty (same_seqT s h1)
  | dict _ => cases e
theorem tnBoot (T : Tn) : bootBuiltins T.name = some (.type T.ty) := by cases T <;> decide +kernel
theorem tnNames (T : Tn) : T.name ≠ "__name__" ∧ (T.name == ("__debug__" : PySem.Str)) = false := by cases T <;> decide
theorem isi_ok {T : Tn} {e : Expr} {p p2 pos : Pos} {f : M Opd} (hg : Gl X "isinstance") (hm : X.mg "isinstance" = none) (hgT : Gl X T.name) (hmT : X.mg T.name = none) (ha : PE X e (tO X W f))
    (he : starEach [e, .Name T.name p2] X.env = (false, eval e X.env) :: starEach [.Name T.name p2] X.env) : PE X (.Call (.Name "isinstance" p) [e, .Name T.name p2] [] pos) (tE X W (fIsi f T)) := by
  obtain ⟨n1, n2⟩ := tnNames T
  have h1 : PE X (.Name T.name p2) (tC (.ty T.ty)) := pe_bltn hgT hmT (tnBoot T) rfl n1 n2
  exact (pe_callB call_isi hg hm (by decide +kernel) (pa_cons ha (pa_cons h1 pa_nil) he) (by decide) (by decide) he).imp fun σ H Q ⟨H0, B0, fx, B, env, rr, S, hr, post⟩ => by
    unfold fIsi at hr
    rcases bnd_some hr with ⟨o, e1, k1, k2⟩ | ⟨c, e1, k1, rfl⟩
    · split at k2
      · rename_i d hd
        split at k2
        · rename_i b hb
          cases k2
          obtain ⟨t, ht, hk⟩ := tyD_is hb
          exact ⟨H0, B0, fx, B, env, _, S, k1, fun v H' B' s S' r => ⟨v, .ty T.ty, .type t, .type T.ty, b, rfl, .ty _, repO_ty S'.h.sub (r.get S' hd) ht, kit_ty hk, post _ H' B' s S' (.bl _)⟩⟩
        · cases k2
      · cases k2
    · exact ⟨H0, B0, fx, B, env, _, S, k1, post⟩
end
end PyI

namespace PyI
open PySem PySem.Spec L2 PyProof.Rows

/-! ## own calls -/
inductive COut where
  | ret (d : PyData)
  | exc (c : PySem.Str)
abbrev CF := List PyData → Option COut
section
variable {K : PySem.W.Frag} {H0 B0 B H : Hp} {fx : List (Addr × HO)} {σ : L2.St} {env : Ev}
/-- behind a call: the heap has grown -/
theorem Sim.after {B' H' : Hp} (S : Sim K H0 B0 fx B H σ env) (sH : Same H H') (sB : Same B B') (sub : Same B' H') (new : ∀ a o, B' a = some o → B a = some o ∨ H a = none) : Sim K H0 B0 fx B' H' σ env where
  h := {
    sub := sub
    old := S.h.old.trans sH
    b0 := S.h.b0.trans sB
    new := fun a o e => by
      rcases new a o e with e | e
      · exact S.h.new a o e
      · exact .inr (none_of_same S.h.old e)
    kept := fun q hq => by
      obtain ⟨h1, h2, h3⟩ := S.h.kept q hq
      refine ⟨sH _ _ h1, ?_, h3⟩
      cases e : B' q.1 with
      | none => rfl
      | some o =>
        rcases new _ _ e with e | e
        · rw [h2] at e; cases e
        · rw [h1] at e; cases e
    nd := S.h.nd }
  len := S.len
  slot := fun i s e => by
    obtain ⟨u, h1, h2⟩ := S.slot i s e
    refine ⟨u, h1, ?_⟩
    cases s with
    | und => trivial
    | val d => obtain ⟨v, hv, r⟩ := h2; exact ⟨v, hv, r.mono sB⟩
    | ob ds =>
      obtain ⟨q, vs, hv, a1, a2, a3, r⟩ := h2
      refine ⟨q, vs, hv, sH _ _ a1, ?_, a3, r.mono sB⟩
      cases e : B' q with
      | none => rfl
      | some o =>
        rcases new _ _ e with e | e
        · rw [a2] at e; cases e
        · rw [a1] at e; cases e
  inj := S.inj
  fxo := S.fxo
theorem Sim.afterH {H' : Hp} (S : Sim K H0 B0 fx B H σ env) (sH : Same H H') : Sim K H0 B0 fx B H' σ env := S.after sH (Same.refl B) (S.h.sub.trans sH) fun a o e => .inl e
theorem ROs.reps (s : Same B H) : ∀ {vs : List V} {ds : List PyData}, ROs K B H vs ds → Reps K H vs ds
  | _, _, .nil => .nil
  | _, _, .cons r t => .cons (r.rep s) (t.reps s)
/-- slots that are operands are frozen -/
def frzO (o : Opd) (env : Ev) : Ev :=
  match o with
  | .val _ => env
  | .slot i => match env[i]? with
    | some (.ob c) => env.set i (.val (cD c))
    | _ => env
def frzAll : List Opd → Ev → Ev
  | [], env => env
  | o :: os, env => frzAll os (frzO o env)
theorem getO_slot (env : Ev) (i : Nat) : getO env (.slot i) = match env[i]? with | some s => cont s | none => none := rfl
theorem frzO_ob {env : Ev} {i : Nat} {c : Cn} (e : env[i]? = some (.ob c)) : frzO (.slot i) env = env.set i (.val (cD c)) := by
  show (match env[i]? with | some (.ob c) => env.set i (.val (cD c)) | _ => env) = _
  rw [e]
theorem frzO_val {env : Ev} {i : Nat} {d : PyData} (e : env[i]? = some (.val d)) : frzO (.slot i) env = env := by
  show (match env[i]? with | some (.ob c) => env.set i (.val (cD c)) | _ => env) = _
  rw [e]
theorem getO_frz (o p : Opd) (env : Ev) : getO (frzO o env) p = getO env p := by
  cases o with
  | val _ => rfl
  | slot i =>
    cases q : env[i]? with
    | none =>
      have e : frzO (.slot i) env = env := by
        show (match env[i]? with | some (.ob c) => env.set i (.val (cD c)) | _ => env) = _
        rw [q]
      rw [e]
    | some s =>
      cases s with
      | und =>
        have e : frzO (.slot i) env = env := by
          show (match env[i]? with | some (.ob c) => env.set i (.val (cD c)) | _ => env) = _
          rw [q]
        rw [e]
      | val d => rw [frzO_val q]
      | ob ds =>
        rw [frzO_ob q]
        cases p with
        | val _ => rfl
        | slot k =>
          rw [getO_slot, getO_slot]
          by_cases hk : k = i
          · subst hk; rw [get_set_eq q, q]; rfl
          · rw [get_set_ne hk]
theorem getOs_frz (o : Opd) (env : Ev) : ∀ os : List Opd, getOs (frzO o env) os = getOs env os
  | [] => rfl
  | p :: os => by unfold getOs; rw [getO_frz, getOs_frz o env os]
theorem Sim.frzO (S : Sim K H0 B0 fx B H σ env) {v : V} {o : Opd} {d : PyData} (h : OpdOk K B σ v o) (g : getO env o = some d) : ∃ B1, Same B B1 ∧ Sim K H0 B0 fx B1 H σ (frzO o env) ∧ Rep K B1 v d := by
  cases o with
  | val u => cases g; exact ⟨B, Same.refl B, S, h⟩
  | slot i =>
    have h' : σ[i]? = some (some v) := h
    have g' : (match env[i]? with | some s => cont s | none => none) = some d := g
    cases q : env[i]? with
    | none => rw [q] at g'; cases g'
    | some s =>
      rw [q] at g'
      cases s with
      | und => cases g'
      | val u =>
        cases g'
        obtain ⟨w, h1, r⟩ := S.val q
        rw [h1] at h'; cases h'
        exact ⟨B, Same.refl B, by rw [frzO_val q]; exact S, r⟩
      | ob us =>
        cases g'
        obtain ⟨p, vs, h1, r, sB, S2⟩ := S.frzSlot q
        rw [h1] at h'; cases h'
        exact ⟨_, sB, by rw [frzO_ob q]; exact S2, r⟩
theorem Sim.frzAll : ∀ {vs : List V} {os : List Opd} {ds : List PyData} {B : Hp} {env : Ev}, Sim K H0 B0 fx B H σ env → OpdsOk K B σ vs os → getOs env os = some ds → ∃ B1, Same B B1 ∧ Sim K H0 B0 fx B1 H σ (frzAll os env) ∧ Reps K B1 vs ds
  | _, _, _, B, _, S, .nil, g => by cases g; exact ⟨B, Same.refl B, S, .nil⟩
  | _, _, ds, B, env, S, .cons (o := o) (os := os) h t, g => by
    have g' : (match getO env o, getOs env os with | some d, some ds => some (d :: ds) | _, _ => none) = some ds := g
    cases q : getO env o with
    | none => rw [q] at g'; cases g'
    | some d =>
      cases q2 : getOs env os with
      | none => rw [q, q2] at g'; cases g'
      | some es =>
        rw [q, q2] at g'; cases g'
        obtain ⟨B1, s1, S1, r1⟩ := S.frzO h q
        obtain ⟨B2, s2, S2, r2⟩ := Sim.frzAll S1 (t.mono s1) (by rw [getOs_frz]; exact q2)
        exact ⟨B2, s1.trans s2, S2, .cons (r1.mono s2) r2⟩
end

/-- what a def of the text promises: it does what cf says -/
def CallPost (K : PySem.W.Frag) (mg : PySem.Str → Option Value) (B H : Hp) (Q : VK) (E : XK) : COut → Prop
  | .ret d => ∀ v H' B', Same H H' → Same B B' → Same B' H' → (∀ a o, B' a = some o → B a = some o ∨ H a = none) → Rep K B' v d → Q v H'
  | .exc c => ∀ H' a, Same H H' → mg c = some (.ref a) → E (.ref a) none H'
def spD (K : PySem.W.Frag) (mg : PySem.Str → Option Value) (np : Nat) (cf : CF) : Sp := fun vs H Q E => vs.length = np ∧ ∃ B ds r, Same B H ∧ Reps K B vs ds ∧ cf ds = some r ∧ CallPost K mg B H Q E r
structure FnL (X : Cx) (n : Nat) (x : PySem.Str) (np : Nat) (cf : CF) : Prop where
  ex : ∃ (f : Addr) (fd : FuncData) (ps : List PySem.Str), FnOk X.prog X.w X.K X.mg X.base (L2.CX X.prog X.w) n f fd ps (spD X.K X.mg np cf) ∧ X.mg x = some (.ref f) ∧ PySem.W.keepIn X.K (.ref f) = true ∧ Binds X.K fd ps []
def fCall (np : Nat) (cf : CF) (g : M (List Opd)) : M (PyData × Bool) := fun env => bnd (g env) fun os e =>
  match getOs e os with
  | some ds => if ds.length = np then
      match cf ds with
      | some (.ret d) => if flat d = true then some (.ok (d, false) e) else some (.ok (d, false) (frzAll os e))
      | some (.exc c) => some (.exc c e)
      | none => none
    else none
  | none => none
theorem ROs.length {K : PySem.W.Frag} {B H : Hp} : ∀ {vs : List V} {ds : List PyData}, ROs K B H vs ds → vs.length = ds.length
  | _, _, .nil => rfl
  | _, _, .cons _ t => by simp [ROs.length t]
section
variable {X : Cx} {W : WX}
theorem call_of {np : Nat} {cf : CF} {g : M (List Opd)} : ∀ σ H Q, tE X W (fCall np cf g) σ H Q → tCallS (spD X.K X.mg np cf) (WE W) (tA X W g) σ H Q := by
  intro σ H Q ⟨H0, B0, fx, B, env, rr, S, hr, post⟩
  unfold fCall at hr
  rcases bnd_some hr with ⟨os, e1, k1, k2⟩ | ⟨c, e1, k1, rfl⟩
  · refine ⟨H0, B0, fx, B, env, _, S, k1, fun vs H1 B1 s1 S1 o1 => ?_⟩
    split at k2
    · rename_i ds hd
      have ro := o1.get S1 hd
      split at k2
      · rename_i hn
        refine ⟨by rw [ro.length]; exact hn, ?_⟩
        split at k2
        · rename_i d hc
          split at k2
          · rename_i hf
            cases k2
            refine ⟨H1, ds, _, Same.refl _, ro.reps S1.h.sub, hc, fun v H' B' sH sB sub new r => ?_⟩
            exact post v H' B1 s1 (S1.afterH sH) (r.flat_any hf)
          · cases k2
            obtain ⟨B2, s2, S2, r2⟩ := S1.frzAll o1 hd
            refine ⟨B2, ds, _, S2.h.sub, r2, hc, fun v H' B' sH sB sub new r => ?_⟩
            exact post v H' B' ((s1.trans s2).trans sB) (S2.after sH sB sub new) r
        · rename_i c hc
          cases k2
          refine ⟨H1, ds, _, Same.refl _, ro.reps S1.h.sub, hc, fun H' a sH hm => ?_⟩
          exact post H' B1 a s1 (S1.afterH sH) hm
        · cases k2
      · cases k2
    · cases k2
  · exact ⟨H0, B0, fx, B, env, _, S, k1, post⟩
theorem call_ok {n np : Nat} {x : PySem.Str} {cf : CF} {g : M (List Opd)} {e : Expr} {es : List Expr} {p pos : Pos} (F : FnL X n x np cf) (hr : Room n X.A) (tk : Takes X W) (hg : Gl X x) (hdb : (x == ("__debug__" : PySem.Str)) = false)
    (ha : PA X (e :: es) (tA X W g)) (he : starEach (e :: es) X.env = (false, eval e X.env) :: starEach es X.env) (hpl : (backTo pos (starEach es X.env)).any (·.1) = false) : PE X (.Call (.Name x p) (e :: es) [] pos) (tE X W (fCall np cf g)) := by
  obtain ⟨f, fd, ps, F1, hm, hk, hb⟩ := F.ex
  exact (pe_callS F1 hr hg hm hk hb (fun σ => passAt tk σ) ha hdb he hpl).imp call_of
theorem call0_ok {n np : Nat} {x : PySem.Str} {cf : CF} {p pos : Pos} (F : FnL X n x np cf) (hr : Room n X.A) (tk : Takes X W) (hg : Gl X x) (hdb : (x == ("__debug__" : PySem.Str)) = false) : PE X (.Call (.Name x p) [] [] pos) (tE X W (fCall np cf aNil)) := by
  obtain ⟨f, fd, ps, F1, hm, hk, hb⟩ := F.ex
  have h : PE X (.Call (.Name x p) [] [] pos) (tCallS (spD X.K X.mg np cf) (WE W) tNil) := by
    refine ⟨fun pins s σ H Q I h => ?_⟩
    refine wpAny_Call_Name_kw (ld_glob I hg hm ?_ hdb)
    exact PySem.W.callWith_K0 I.kIn hk (run_fnS (us := []) F1 hr hb (passAt tk σ) I .nil h)
  refine h.imp fun σ H Q q => ?_
  obtain ⟨H0, B0, fx, B, env, r, S, hr, post⟩ := call_of (W := W) σ H Q q
  cases hr
  exact post [] H B (Same.refl B) S .nil
end

/-! ## methods that change a slot's list -/
theorem list_extendW (l : Addr) (items : Array Value) (n : Nat) (b : Addr) (items2 : Array Value) (n2 : Nat) (dd2 : Option Addr) (sl2 : Array (Option Value)) (hc0 : ¬(!items.isEmpty && Builtin.List.listTooLong (items.size + items2.size)) = true) (hc1 : items.size ≤ sizeLine) (hs2 : items.size + items2.size ≤ sizeLine + 1 := by seq_fits) :
    Meets (Builtin.«list.extend» ⟨[.ref l, .ref b], []⟩) (fun _ R s => s.heap.get? l = some { cls := .type "list", dict := none, data := .seq items n, slots := #[] } ∧ s.heap.get? b = some { cls := .type "list", dict := dd2, data := .seq items2 n2, slots := sl2 } ∧ R (.ok (.ret Value.none)) { s with heap := s.heap.update l (Obj.mapSeq fun x => x ++ items2), toks := s.toks }) :=
  .of_wp fun prog w A R s h => by
    obtain ⟨hp, g, d, tk, os⟩ := s; obtain ⟨hl, hb, h⟩ := h; have f1 := AutoSeq1.idx_int; have f2 := AutoSeq1.sub_tuple_tuple; have f3 := AutoSeq1.sub_list_list; have f4 := AutoSeq1.sub_tuple_list; have f5 := AutoSeq1.sub_list_tuple;
    have hz' : (items ++ items2).size ≤ sizeLine + 1 := by rw [Array.size_append]; exact hs2
    wp_walk using (wpAny_updateSeq hl rfl (hz := hc1) (_hz' := hz')), wpAny_loadPart' hl, wpAny_loadPart' hb; exact ⟨_, rfl, h⟩
section
variable {X : Cx} {W : WX}
def rExtL (K : PySem.W.Frag) : V → List V → Hp → VK → Prop := fun x vs H Q => ∃ l b xs zs, x = .ref l ∧ vs = [.ref b] ∧ H l = some (.lst xs) ∧ SqL K H b zs ∧ xs.length + zs.length ≤ sizeLine ∧ Q .non (upd H l (.lst (xs ++ zs)))
theorem mt_extL : MtM X "list.extend" (rExtL X.K) := by
  intro pins s σ H x vs v us Q I rx rv h
  obtain ⟨l, b, xs, zs, rfl, rfl, hH, hB, hz, q⟩ := h
  cases rx
  obtain ⟨u, rfl, ru⟩ := rv.one
  cases ru
  obtain ⟨z, its, n, r, hl, e⟩ := I.lstM hH
  obtain ⟨its2, r2, p2, z2⟩ := I.list hB
  obtain ⟨⟨cls2, dd2, data2, sl2⟩, ho2, hc2, n2, hd2⟩ := p2.isList
  simp only at hc2 hd2
  subst hc2 hd2
  have hl2 := r2.length
  have hsz : its.toArray.size + its2.toArray.size ≤ sizeLine := by rw [List.size_toArray, List.size_toArray]; omega
  have hlong : ¬ (!its.toArray.isEmpty && Builtin.List.listTooLong (its.toArray.size + its2.toArray.size)) = true := by
    rw [notLongL hsz, Bool.and_false]
    exact Bool.false_ne_true
  refine call_meets F.slot_list_extend ⟨_, e, rfl⟩ F.entry_list_extend (F.args_list_extend_2 _ _)
    (list_extendW l its.toArray n b its2.toArray n2 dd2 sl2 hlong (by rw [List.size_toArray]; omega) (by omega)) ⟨e, ho2, ?_⟩
  refine ⟨.non, _, I.lset (its' := its ++ its2) hH e (by simp) (r.append r2) ?_, rfl, q⟩
  rw [List.length_append]
  omega
/-- x.append(e) -/
def fApp (i : Nat) (f : M PyData) : M PyData := fun env =>
  match env[i]? with
  | some (.ob (.lst _)) => bnd (f env) fun d e =>
    match e[i]? with
    | some (.ob (.lst ds)) => if ds.length < sizeLine then some (.ok .none (e.set i (.own (ds ++ [d])))) else none
    | _ => none
  | _ => none
def fExt (i : Nat) (f : M Opd) : M PyData := fun env =>
  match env[i]? with
  | some (.ob (.lst _)) => bnd (f env) fun o e =>
    match e[i]?, getO e o with
    | some (.ob (.lst ds)), some (.list es) => if ds.length + es.length ≤ sizeLine then some (.ok .none (e.set i (.own (ds ++ es)))) else none
    | _, _ => none
  | _ => none
def fPop (i : Nat) : M PyData := fun env =>
  match env[i]? with
  | some (.ob (.lst ds)) => match ds[ds.length - 1]? with
    | some d => some (.ok d (env.set i (.own ds.dropLast)))
    | none => none
  | _ => none
def fPopAt (i : Nat) (f : M PyData) : M PyData := fun env =>
  match env[i]? with
  | some (.ob (.lst _)) => bnd (f env) fun k e =>
    match e[i]?, k with
    | some (.ob (.lst ds)), .int k => if -(2 ^ 63) ≤ k ∧ k < 2 ^ 63 then
        match seqIndex? k ds.length with
        | some j => match ds[j]? with
          | some d => some (.ok d (e.set i (.own (ds.eraseIdx j))))
          | none => none
        | none => none
      else none
    | _, _ => none
  | _ => none
theorem tyL {K : PySem.W.Frag} {H : Hp} {p : Addr} {vs : List V} (h : H p = some (.lst vs)) : tyV K "list" (.ref p) H := Or.inl ⟨rfl, _, Or.inl (Or.inl h)⟩
theorem app_ok {i : Nat} {x : PySem.Str} {e : Expr} {p ap pos : Pos} {f : M PyData} (hN : X.N[i]? = some x) (hv : Vis X.env.scope x) (hd : (x == ("__debug__" : PySem.Str)) = false) (hcd : (x == ("__classdict__" : PySem.Str)) = false)
    (he : PE X e (tD X W f)) (hs : starEach [e] X.env = (false, eval e X.env) :: starEach [] X.env) (hl : (ap.endLine == pos.line) = true) : PE X (.Call (.Attribute (.Name x p) "append" ap) [e] [] pos) (tD X W (fApp i f)) :=
  (pe_bm PySem.F.plainAttrs_list PySem.F.slot_list_append PySem.F.type_list_append mt_append (pe_var hN hv hd hcd) (pa_cons he pa_nil hs) rfl (by rw [hs]; rfl) hl hs rfl).imp fun σ H Q ⟨H0, B0, fx, B, env, rr, S, hr, post⟩ => by
    unfold fApp at hr
    split at hr
    · rename_i ds0 e0
      obtain ⟨p, vs, h1, h2, h3, h4, r⟩ := S.own e0
      refine ⟨.ref p, h1, tyL h2, ?_⟩
      rcases bnd_some hr with ⟨d, e1, k1, k2⟩ | ⟨c, e1, k1, rfl⟩
      · refine ⟨H0, B0, fx, B, env, _, S, k1, fun v H1 B1 s1 S1 r1 => ?_⟩
        split at k2
        · rename_i ds e2
          split at k2
          · rename_i hz
            cases k2
            obtain ⟨p', vs', h1', h2', h3', h4', r'⟩ := S1.own e2
            rw [h1] at h1'; cases h1'
            refine ⟨p, vs', v, rfl, rfl, h2', by rw [r'.length]; exact hz, ?_⟩
            exact post _ _ B1 s1 (S1.wrSlot e2 h1 (r'.append (.one r1))) .non
          · cases k2
        · cases k2
      · exact ⟨H0, B0, fx, B, env, _, S, k1, post⟩
    · cases hr
theorem ext_ok {i : Nat} {x : PySem.Str} {e : Expr} {p ap pos : Pos} {f : M Opd} (hN : X.N[i]? = some x) (hv : Vis X.env.scope x) (hd : (x == ("__debug__" : PySem.Str)) = false) (hcd : (x == ("__classdict__" : PySem.Str)) = false)
    (he : PE X e (tO X W f)) (hs : starEach [e] X.env = (false, eval e X.env) :: starEach [] X.env) (hl : (ap.endLine == pos.line) = true) : PE X (.Call (.Attribute (.Name x p) "extend" ap) [e] [] pos) (tD X W (fExt i f)) :=
  (pe_bm PySem.F.plainAttrs_list PySem.F.slot_list_extend PySem.F.type_list_extend mt_extL (pe_var hN hv hd hcd) (pa_cons he pa_nil hs) rfl (by rw [hs]; rfl) hl hs rfl).imp fun σ H Q ⟨H0, B0, fx, B, env, rr, S, hr, post⟩ => by
    unfold fExt at hr
    split at hr
    · rename_i ds0 e0
      obtain ⟨p, vs, h1, h2, h3, h4, r⟩ := S.own e0
      refine ⟨.ref p, h1, tyL h2, ?_⟩
      rcases bnd_some hr with ⟨d, e1, k1, k2⟩ | ⟨c, e1, k1, rfl⟩
      · refine ⟨H0, B0, fx, B, env, _, S, k1, fun v H1 B1 s1 S1 o1 => ?_⟩
        split at k2
        · rename_i ds es e2 g2
          split at k2
          · rename_i hz
            cases k2
            obtain ⟨p', vs', h1', h2', h3', h4', r'⟩ := S1.own e2
            rw [h1] at h1'; cases h1'
            obtain ⟨b, ws, rfl, h5, h6⟩ := (o1.get S1 g2).lst S1.h.sub
            refine ⟨p, b, vs', ws, rfl, rfl, h2', h5, by rw [r'.length, h6.length]; exact hz, ?_⟩
            exact post _ _ B1 s1 (S1.wrSlot e2 h1 (r'.append h6)) .non
          · cases k2
        · cases k2
      · exact ⟨H0, B0, fx, B, env, _, S, k1, post⟩
    · cases hr
theorem pop_ok {i : Nat} {x : PySem.Str} {p ap pos : Pos} (hN : X.N[i]? = some x) (hv : Vis X.env.scope x) (hd : (x == ("__debug__" : PySem.Str)) = false) (hcd : (x == ("__classdict__" : PySem.Str)) = false)
    (hl : (ap.endLine == pos.line) = true) : PE X (.Call (.Attribute (.Name x p) "pop" ap) [] [] pos) (tD X W (fPop i)) :=
  (pe_bm0 PySem.F.plainAttrs_list PySem.F.slot_list_pop PySem.F.type_list_pop mt_pop (pe_var hN hv hd hcd) rfl hl).imp fun σ H Q ⟨H0, B0, fx, B, env, rr, S, hr, post⟩ => by
    unfold fPop at hr
    split at hr
    · rename_i ds0 e0
      obtain ⟨p, vs, h1, h2, h3, h4, r⟩ := S.own e0
      refine ⟨.ref p, h1, tyL h2, ?_⟩
      split at hr
      · rename_i d hd
        cases hr
        obtain ⟨v, hv', rv⟩ := r.get hd
        refine ⟨p, vs, v, rfl, rfl, h2, by rw [r.length]; exact hv', ?_⟩
        exact post _ _ B (Same.refl B) (S.wrSlot e0 h1 r.dropLast) rv
      · cases hr
    · cases hr
theorem popAt_ok {i : Nat} {x : PySem.Str} {e : Expr} {p ap pos : Pos} {f : M PyData} (hN : X.N[i]? = some x) (hv : Vis X.env.scope x) (hd : (x == ("__debug__" : PySem.Str)) = false) (hcd : (x == ("__classdict__" : PySem.Str)) = false)
    (he : PE X e (tD X W f)) (hs : starEach [e] X.env = (false, eval e X.env) :: starEach [] X.env) (hl : (ap.endLine == pos.line) = true) : PE X (.Call (.Attribute (.Name x p) "pop" ap) [e] [] pos) (tD X W (fPopAt i f)) :=
  (pe_bm PySem.F.plainAttrs_list PySem.F.slot_list_pop PySem.F.type_list_pop mt_popAt (pe_var hN hv hd hcd) (pa_cons he pa_nil hs) rfl (by rw [hs]; rfl) hl hs rfl).imp fun σ H Q ⟨H0, B0, fx, B, env, rr, S, hr, post⟩ => by
    unfold fPopAt at hr
    split at hr
    · rename_i ds0 e0
      obtain ⟨p, vs, h1, h2, h3, h4, r⟩ := S.own e0
      refine ⟨.ref p, h1, tyL h2, ?_⟩
      rcases bnd_some hr with ⟨d, e1, k1, k2⟩ | ⟨c, e1, k1, rfl⟩
      · refine ⟨H0, B0, fx, B, env, _, S, k1, fun v H1 B1 s1 S1 r1 => ?_⟩
        split at k2
        · rename_i ds k e2
          split at k2
          · rename_i hk
            split at k2
            · rename_i j hj
              split at k2
              · rename_i d hd
                cases k2
                obtain ⟨p', vs', h1', h2', h3', h4', r'⟩ := S1.own e2
                rw [h1] at h1'; cases h1'
                cases r1
                obtain ⟨v, hv', rv⟩ := r'.get hd
                refine ⟨p, vs', k, j, v, rfl, rfl, h2', hk.1, hk.2, by rw [r'.length]; exact hj, hv', ?_⟩
                exact post _ _ B1 s1 (S1.wrSlot e2 h1 (r'.eraseIdx j)) rv
              · cases k2
            · cases k2
          · cases k2
        · cases k2
      · exact ⟨H0, B0, fx, B, env, _, S, k1, post⟩
    · cases hr
end
end PyI

/-! # enumerate(tuple) -/
namespace PyI
open PySem PySem.Spec L2 PyProof.Rows
theorem enum_new_tup (a : Addr) (its : Array Value) :
    Meets (Builtin.«enumerate.__new__» ⟨[.type "enumerate", .ref a], []⟩) (fun _ R s => s.heap.IsTuple a its ∧
      R (.ok (.ret (.ref (s.heap.push { cls := .type "tuple_iterator", data := .fields #[.ref a, .int 0 0] }).objs.size)))
        { s with heap := (s.heap.push { cls := .type "tuple_iterator", data := .fields #[.ref a, .int 0 0] }).push { cls := .type "enumerate", data := .fields #[.none, .bool false, .ref s.heap.objs.size, rawInt 0, .none, .none] } }) :=
  .of_wp fun prog w A R s q => by
    obtain ⟨hp, g, d, tk, os⟩ := s; obtain ⟨ht, q⟩ := q
    have sub := sub_enumerate
    have begin_ : ∀ {A' : Around} {E : Value → Shared → Prop} {Q : Value → Shared → Prop}, Q (.ref hp.objs.size) ⟨hp.push { cls := .type "tuple_iterator", data := .fields #[.ref a, .int 0 0] }, g, d, tk, os⟩ → wpAny (model prog w) A' (pyIter (.ref a)) Q E ⟨hp, g, d, tk, os⟩ :=
      fun z => wpAny_pyIter_tuple (s := ⟨hp, g, d, tk, os⟩) ht z
    wp_walk using begin_
    refine wpAny_stack_any fun _ => wpAny_pure ?_; split
    · rename_i c _ _ _ _ _
      cases (c == Value.type "enumerate") <;> (wp_walk using begin_; exact ⟨_, rfl, q⟩)
    · wp_walk using begin_; exact ⟨_, rfl, q⟩
section
variable {prog : Program} {w : World} {A : Around} {E : Value → Shared → Prop} {s : Shared}
theorem call_enum_tup {a : Addr} {its : Array Value} {Q : Value → Shared → Prop} (ht : s.heap.IsTuple a its)
    (h : ∀ h', IsEnum h' (s.heap.objs.size + 1) s.heap.objs.size 0 .none → h'.IsTupleIter s.heap.objs.size a 0 → (∀ b o, s.heap.get? b = some o → h'.get? b = some o) → Q (.ref (s.heap.objs.size + 1)) { s with heap := h' }) :
    wpAny (model prog w) A (call (.type "enumerate") [.ref a]) Q E s := by
  refine callType_new F.called_enumerate (by decide) (F.typeCall_enumerate_1 _) (F.newCall_enumerate_1 _) (fun obj => F.args_object_init_2 obj _) F.entry_enumerate_new (enum_new_tup a its) ⟨ht, ?_⟩
  have size1 : (s.heap.push { cls := .type "tuple_iterator", data := .fields #[.ref a, .int 0 0] }).objs.size = s.heap.objs.size + 1 := Heap.size_push ..
  show _ ∧ _
  rw [size1]
  have en : IsEnum ((s.heap.push { cls := .type "tuple_iterator", data := .fields #[.ref a, .int 0 0] }).push { cls := .type "enumerate", data := .fields #[.none, .bool false, .ref s.heap.objs.size, rawInt 0, .none, .none] }) (s.heap.objs.size + 1) s.heap.objs.size 0 .none := by
    have last := Heap.get?_push_size (s.heap.push { cls := .type "tuple_iterator", data := .fields #[.ref a, .int 0 0] }) (o := { cls := .type "enumerate", data := .fields #[.none, .bool false, .ref s.heap.objs.size, rawInt 0, .none, .none] }) rfl
    rw [size1] at last; exact last
  exact ⟨⟨_, en, rfl⟩, h _ en ⟨_, Heap.get?_push_of_some _ (Heap.get?_push_size _ rfl), rfl, rfl⟩ fun b o z => Heap.get?_push_of_some _ (Heap.get?_push_of_some _ z)⟩
end
/-- the tuple at a, each item in a new pair -/
def IteT (K : PySem.W.Frag) (a : Addr) : It :=
  ⟨fun i H => ∃ (xs : List V) (x : V), SqT K H a xs ∧ xs[i]? = some x, fun i H v H' => ∃ T x, v = .ref T ∧ H T = none ∧ H' = upd H T (.tup [.int (i : Nat), x]) ∧ ∀ xs, SqT K H a xs → xs[i]? = some x, fun i H => ∃ xs : List V, SqT K H a xs ∧ xs.length ≤ i⟩
theorem turn_enumT {P : Program} {w : World} {K : PySem.W.Frag} {elts : List Expr} {kk : Nat} {tpos : Pos} (a e it : Addr) :
    Turn P w K (.Tuple elts kk tpos) (IteT K a) [e, it] e (fun i h => (∃ old, IsEnum h e it ((i : Nat) : Int) old) ∧ h.IsTupleIter it a i ∧ e ≠ it) where
  mem := List.mem_cons_self
  obj := fun i h st b hb => by
    obtain ⟨⟨old, he⟩, ⟨o, ho, hc, hd⟩, _⟩ := st
    rcases (by simpa using hb : b = e ∨ b = it) with rfl | rfl
    · exact ⟨_, he, nofun⟩
    · exact ⟨o, ho, fun v q => by rw [hd] at q; cases q⟩
  keep := fun i h h' st k => ⟨⟨st.1.choose, k e (by simp) _ st.1.choose_spec⟩, st.2.1.at fun o q => k it (by simp) o q, st.2.2⟩
  item := by
    rintro X rfl rfl rfl hc i pins s σ H E I hf ⟨⟨old, he⟩, hit, hne⟩ ⟨xs, x, hq, hx⟩
    obtain ⟨its, rv, p, hz⟩ := I.tuple hq
    obtain ⟨u, hu, ru⟩ := rv.get hx
    have hel : e < s.heap.objs.size := Heap.lt_size he
    obtain ⟨oi, hoi, hci, hdi⟩ := id hit
    have hil : it < s.heap.objs.size := Heap.lt_size hoi
    obtain ⟨oa, hoa, hca, _⟩ := id p
    have n1 : e ≠ a := fun z => by subst z; rw [show s.heap.get? e = some _ from he] at hoa; cases hoa; exact absurd (Value.type.inj hca) (by decide)
    have n2 : a ≠ it := fun z => by subst z; rw [hoi] at hoa; cases hoa; rw [hci] at hca; exact absurd (Value.type.inj hca) (by decide)
    have hh : X.A.in1.handled = none := by simp [I.ok.hd hc]
    have hlt : i < its.toArray.size := by simp; exact (List.getElem?_eq_some_iff.mp hu).1
    refine wpAny_pyNext_enum_itemD (Draws.tuple hh it a n2 its.toArray) he ⟨hit, p⟩ hlt hne (by simp [hne, n1]) fun y h' tk hy ho hst hT hsz hk => ?_
    have hy' : y = u := by
      have : its[i]? = some y := by simpa using hy
      rw [hu] at this; exact (Option.some.inj this).symm
    subst hy'
    refine ⟨_, rfl, wpAny_letOwnedTupleGo_enum (s := { s with heap := h', toks := tk + 1 }) ho fun h'' he' sb => ?_⟩
    have hT2 : h''.get? s.heap.objs.size = some { cls := .type "tuple", data := .seq #[.int i tk, y] } := (sb.2 _ (Nat.ne_of_gt hel)).trans hT
    have new : ObjOk X.prog X.w (upd H s.heap.objs.size (.tup [.int (i : Nat), x])) h'' s.heap.objs.size (.tup [.int (i : Nat), x]) :=
      ⟨by show 2 ≤ sizeLine; decide, [.int i tk, y], .cons ⟨_, rfl⟩ (.cons ru .nil), ⟨_, hT2, rfl, _, rfl⟩⟩
    have I1 : Inv X pins σ (upd H s.heap.objs.size (.tup [.int (i : Nat), x])) { s with heap := h'', toks := tk + 1 } :=
      I.turnedNew (ch := [e, it]) (fun b ob hb q => (sb.2 b fun z => hb (by simp [z])).trans (hk b ob (fun z => hb (by simp [z])) (fun z => hb (by simp [z])) q)) hf (Nat.le_refl _) new
    refine ⟨.ref s.heap.objs.size, _, I1, rfl, ⟨_, x, rfl, I.hok.fresh (Nat.le_refl _), rfl, fun ys hys => (I.tuple_inj hys hq) ▸ hx⟩, ⟨⟨y, by rw [show ((i + 1 : Nat) : Int) = (i : Int) + 1 by omega]; exact he'⟩, hst.1.at fun o q => (sb.2 it (Ne.symm hne)).trans q, hne⟩, fun b hb => ?_⟩
    rcases (by simpa using hb : b = e ∨ b = it) with rfl | rfl
    · rw [upd_ne (Nat.ne_of_lt hel)]; exact (hf _ hb).1
    · rw [upd_ne (Nat.ne_of_lt hil)]; exact (hf _ hb).1
  done := by
    rintro X rfl rfl rfl hc i pins s σ H E I hf ⟨⟨old, he⟩, hit, hne⟩ ⟨xs, hq, hx⟩
    obtain ⟨its, rv, p, hz⟩ := I.tuple hq
    obtain ⟨oi, hoi, hci, hdi⟩ := id hit
    obtain ⟨oa, hoa, hca, _⟩ := id p
    have n2 : a ≠ it := fun z => by subst z; rw [hoi] at hoa; cases hoa; rw [hci] at hca; exact absurd (Value.type.inj hca) (by decide)
    have hh : X.A.in1.handled = none := by simp [I.ok.hd hc]
    have big : its.toArray.size ≤ i := by
      have := rv.length
      simp
      omega
    have D : Draws X.prog X.w X.A.in1 it [it, a] i (fun _ _ => True) (fun j h => j = i ∧ h.IsTupleIter it a i ∧ h.IsTuple a its.toArray) :=
      { live := fun _ _ st => let ⟨o, ho, _⟩ := st.2.1; ⟨o, ho⟩
        frame := fun _ _ _ st hk => ⟨st.1, st.2.1.at fun o e => hk it (by simp) o e, st.2.2.at fun o e => hk a (by simp) o e⟩
        item := fun j s Q E hj st _ => absurd hj (by have := st.1; omega)
        done := fun s Q E st hE => wpAny_nextOf_tuple_end hh st.2.1 st.2.2 (Array.getElem?_eq_none big) hE }
    obtain ⟨f0, f1, f2, f3, f4, f5⟩ := hf it (by simp)
    exact wpAny_pyNext_enum_endD D he ⟨rfl, hit, p⟩ fun h' eb => ⟨rfl, I.turned (t' := s.toks) (fun b o hb q => eb b o hb q) f0 f1 f3 f4 f5⟩
  self := fun A i s Q E st h => wpAny_pyIter_enum st.1.choose_spec h
def iEnumT (K : PySem.W.Frag) (ta : TA) : TI := fun σ H R => ta σ H fun vs H1 => ∃ a xs, vs = [.ref a] ∧ SqT K H1 a xs ∧ R (IteT K a) H1
theorem pi_enumT {X : Cx} {e : Expr} {ta : TA} {p pos tpos : Pos} {elts : List Expr} {kk : Nat} (hg : Gl X "enumerate") (hm : X.mg "enumerate" = none) (ha : PA X [e] ta) (hs : starEach [e] X.env = [(false, eval e X.env)]) :
    PI X (.Tuple elts kk tpos) (.Call (.Name "enumerate" p) [e] [] pos) (iEnumT X.K ta) := by
  refine ⟨fun pins s σ H R I h => Call_ (ld_blt I hg hm boot_enumerate (PyProof.Rows.callWith_type1 (thn (ha.run pos pins s σ H _ I h) fun us s1 ⟨vs, H1, I1, r1, a, xs, ex, hq, q⟩ => ?_) hs rfl))⟩
  subst ex
  obtain ⟨u, rfl, ru⟩ := vals1 r1
  obtain rfl : u = Value.ref a := ru
  obtain ⟨its, rv, p', hz⟩ := I1.tuple hq
  refine call_enum_tup p' fun h' he hit hk => wpAny_pyIter_enum he ?_
  refine ⟨s1.heap.objs.size + 1, [s1.heap.objs.size + 1, s1.heap.objs.size], _, _, H1, rfl, I1.kept (t' := s1.toks) hk, turn_enumT a (s1.heap.objs.size + 1) s1.heap.objs.size, ⟨⟨.none, he⟩, hit, Nat.succ_ne_self _⟩, fun b hb => ?_, q⟩
  have le : s1.heap.objs.size ≤ b := by
    rcases (by simpa using hb : b = s1.heap.objs.size + 1 ∨ b = s1.heap.objs.size) with z | z
    · rw [z]; exact Nat.le_succ _
    · rw [z]; exact Nat.le_refl _
  exact I1.fpOk le (I1.hok.fresh le)
end PyI

namespace PyI
open PySem PySem.Spec L2 PyProof.Rows

/-! ## what a loop walks: data items -/
/-- an item: a value, or, where a written tuple of names takes it, a tuple of values -/
def RepW (w : Bool) (K : PySem.W.Frag) (B : Hp) (v : V) (d : PyData) : Prop := Rep K B v d ∨ (w = true ∧ ∃ a xs ds, v = .ref a ∧ d = .tuple ds ∧ SqT K B a xs ∧ Reps K B xs ds)
def twE : Expr → Bool
  | .Tuple _ _ _ => true
  | _ => false
def ItOk (w : Bool) (K : PySem.W.Frag) (B1 : Hp) (J : It) (ds : List PyData) : Prop := ∀ H0 B0 fx B H σ env (i : Nat), Same B1 B → Sim K H0 B0 fx B H σ env →
  (ds.length ≤ i → J.stop i H) ∧ ∀ d, ds[i]? = some d → J.go i H ∧ ∀ x H', J.yld i H x H' → ∃ B', Same B B' ∧ Sim K H0 B0 fx B' H' σ env ∧ RepW w K B' x d
def PostI (X : Cx) (W : WX) (w : Bool) (H0 B0 : Hp) (fx : List (Addr × HO)) (B : Hp) (σ : L2.St) (R : It → Hp → Prop) : Rs (List PyData) → Prop
  | .ok ds e => ∀ J H' B', Same B B' → Sim X.K H0 B0 fx B' H' σ e → ItOk w X.K B' J ds → R J H'
  | .exc c e => ∀ H' B' a, Same B B' → Sim X.K H0 B0 fx B' H' σ e → X.mg c = some (.ref a) → W (.ref a) none σ H'
def tI (X : Cx) (W : WX) (w : Bool) (f : M (List PyData)) : TI := fun σ H R => ∃ H0 B0 fx B env r, Sim X.K H0 B0 fx B H σ env ∧ f env = some r ∧ PostI X W w H0 B0 fx B σ R r
theorem _root_.L2.PI.imp {X : Cx} {tg e : Expr} {t t' : TI} (h : PI X tg e t) (i : ∀ σ H Q, t' σ H Q → t σ H Q) : PI X tg e t' := ⟨fun pins s σ H Q I q => h.run pins s σ H Q I (i σ H Q q)⟩
theorem _root_.L2.PI.or {X : Cx} {tg e : Expr} {t t' : TI} (h : PI X tg e t) (h' : PI X tg e t') : PI X tg e (fun σ H R => t σ H R ∨ t' σ H R) := ⟨fun pins s σ H Q I q => by
  rcases q with q | q
  · exact h.run pins s σ H Q I q
  · exact h'.run pins s σ H Q I q⟩

def signs (x : PySem.Str) : List PyData := x.cps.toList.map fun c => .str ⟨#[c]⟩
/-- a list, a tuple, a text -/
def itemsD : PyData → Option (List PyData)
  | .list ds => some ds
  | .tuple ds => some ds
  | .str x => some (signs x)
  | _ => none
def iSeq (f : M PyData) : M (List PyData) := fun env => bnd (f env) fun d e =>
  match itemsD d with
  | some ds => some (.ok ds e)
  | none => none
def rangeD : BN
  | [.int j] => if -(2 ^ 62) ≤ j ∧ j < 2 ^ 62 then some (.newL ((List.range j.toNat).map fun (k : Nat) => .int (0 + k))) else none
  | [.int i, .int j] => if -(2 ^ 62) ≤ i ∧ i < 2 ^ 62 ∧ -(2 ^ 62) ≤ j ∧ j < 2 ^ 62 then some (.newL ((List.range (j - i).toNat).map fun (k : Nat) => .int (i + k))) else none
  | _ => none
def iRange (g : M (List Opd)) : M (List PyData) := fun env => bnd (g env) fun os e =>
  match getOs e os with
  | some us => match rangeD us with
    | some (.newL ds) => some (.ok ds e)
    | _ => none
  | none => none
def enumF : Nat → List PyData → List PyData
  | _, [] => []
  | i, d :: ds => .tuple [.int i, d] :: enumF (i + 1) ds
def listOnly : PyData → Option (List PyData)
  | .list ds => some ds
  | _ => none
def enumItems : PyData → Option (List PyData)
  | .list ds => some ds
  | .tuple ds => some ds
  | _ => none
def iEnumD (f : M PyData) : M (List PyData) := fun env => bnd (f env) fun d e =>
  match enumItems d with
  | some ds => some (.ok (enumF 0 ds) e)
  | none => none
def zipF : List PyData → List PyData → List PyData
  | a :: as, b :: bs => .tuple [a, b] :: zipF as bs
  | _, _ => []
def zipItems : PyData → PyData → Option (List PyData)
  | .list xs, .list ys => some (zipF xs ys)
  | .tuple xs, .tuple ys => some (zipF xs ys)
  | _, _ => none
def iZipD (f g : M PyData) : M (List PyData) := fun env => bnd (f env) fun d e => bnd (g e) fun d' e' =>
  match zipItems d d' with
  | some ds => some (.ok ds e')
  | none => none
def revItems : PyData → Option (List PyData)
  | .list ds => some ds.reverse
  | .tuple ds => some ds.reverse
  | _ => none
def iRevD (f : M PyData) : M (List PyData) := fun env => bnd (f env) fun d e =>
  match revItems d with
  | some ds => some (.ok ds e)
  | none => none

theorem sqL_inj {X : Cx} {pins : List (Addr × Obj)} {s : Shared} {σ : L2.St} {H : Hp} (I : L2.Inv X pins σ H s) {a : Addr} {xs ys : List V} (h : SqL X.K H a xs) (h' : SqL X.K H a ys) : xs = ys := I.list_inj h h'

section
variable {K : PySem.W.Frag} {B1 : Hp} {w : Bool}
theorem itList {a : Addr} {xs : List V} {ds : List PyData} (h : SqL K B1 a xs) (r : Reps K B1 xs ds) : ItOk w K B1 (Itl K a) ds := fun H0 B0 fx B H σ env i s S => by
  have hH : SqL K H a xs := S.h.sub.seq (s.seq h)
  refine ⟨fun hl => ⟨xs, hH, by rw [r.length]; exact hl⟩, fun d hd => ?_⟩
  obtain ⟨v, hv, rv⟩ := r.get hd
  refine ⟨⟨xs, v, hH, hv⟩, fun x H' ⟨e, y⟩ => ?_⟩
  subst e
  have e2 := y xs hH
  rw [hv] at e2; cases e2
  exact ⟨B, Same.refl B, S, .inl (rv.mono s)⟩
theorem itTup {a : Addr} {xs : List V} {ds : List PyData} (h : SqT K B1 a xs) (r : Reps K B1 xs ds) : ItOk w K B1 (Itt K a) ds := fun H0 B0 fx B H σ env i s S => by
  have hH : SqT K H a xs := same_seqT S.h.sub (same_seqT s h)
  refine ⟨fun hl => ⟨xs, hH, by rw [r.length]; exact hl⟩, fun d hd => ?_⟩
  obtain ⟨v, hv, rv⟩ := r.get hd
  refine ⟨⟨xs, v, hH, hv⟩, fun x H' ⟨e, y⟩ => ?_⟩
  subst e
  have e2 := y xs hH
  rw [hv] at e2; cases e2
  exact ⟨B, Same.refl B, S, .inl (rv.mono s)⟩
theorem itRange (lo : Int) (n : Nat) : ItOk w K B1 (Itr lo n) ((List.range n).map fun (k : Nat) => .int (lo + k)) := fun H0 B0 fx B H σ env i s S => by
  refine ⟨fun hl => ?_, fun d hd => ?_⟩
  · rw [List.length_map, List.length_range] at hl; exact hl
  · rw [List.getElem?_map] at hd
    cases q : (List.range n)[i]? with
    | none => rw [q] at hd; cases hd
    | some k =>
      rw [q] at hd; cases hd
      have hi : i < n := by
        rcases Nat.lt_or_ge i n with h | h
        · exact h
        · rw [List.getElem?_eq_none (by rw [List.length_range]; exact h)] at q; cases q
      rw [List.getElem?_range hi] at q; cases q
      refine ⟨hi, fun x H' ⟨e, y⟩ => ?_⟩
      subst e y
      exact ⟨B, Same.refl B, S, .inl (.int _)⟩
theorem itStr (x : PySem.Str) : ItOk w K B1 (Its x) (signs x) := fun H0 B0 fx B H σ env i s S => by
  refine ⟨fun hl => ?_, fun d hd => ?_⟩
  · unfold signs at hl; rw [List.length_map, Array.length_toList] at hl; exact hl
  · unfold signs at hd
    rw [List.getElem?_map, Array.getElem?_toList] at hd
    cases q : x.cps[i]? with
    | none => rw [q] at hd; cases hd
    | some c =>
      rw [q] at hd; cases hd
      refine ⟨?_, fun v H' ⟨e, c', h1, h2⟩ => ?_⟩
      · rcases Nat.lt_or_ge i x.cps.size with h | h
        · exact h
        · rw [Array.getElem?_eq_none h] at q; cases q
      · subst e h2
        rw [q] at h1; cases h1
        exact ⟨B, Same.refl B, S, .inl (.str _)⟩
theorem enumF_get : ∀ (ds : List PyData) (k i : Nat), (enumF k ds)[i]? = (ds[i]?).map fun d => .tuple [.int ((k + i : Nat) : Int), d]
  | [], _, _ => by simp [enumF]
  | d :: ds, k, 0 => by simp [enumF]
  | d :: ds, k, i + 1 => by
    unfold enumF
    rw [List.getElem?_cons_succ, List.getElem?_cons_succ, enumF_get ds (k + 1) i]
    congr 1
    funext d
    congr 4
    omega
theorem enumF_length : ∀ (ds : List PyData) (k : Nat), (enumF k ds).length = ds.length
  | [], _ => rfl
  | d :: ds, k => by unfold enumF; rw [List.length_cons, List.length_cons, enumF_length ds]
theorem itEnum {a : Addr} {xs : List V} {ds : List PyData} (h : SqL K B1 a xs) (r : Reps K B1 xs ds) : ItOk true K B1 (Ite K a) (enumF 0 ds) := fun H0 B0 fx B H σ env i s S => by
  have hH : SqL K H a xs := S.h.sub.seq (s.seq h)
  refine ⟨fun hl => ⟨xs, hH, by rw [r.length]; rw [enumF_length] at hl; exact hl⟩, fun d hd => ?_⟩
  rw [enumF_get] at hd
  cases q : ds[i]? with
  | none => rw [q] at hd; cases hd
  | some d' =>
    rw [q] at hd; cases hd
    obtain ⟨v, hv, rv⟩ := r.get q
    refine ⟨⟨xs, v, hH, hv⟩, fun x H' ⟨T, y, e1, hT, e2, hy⟩ => ?_⟩
    subst e1 e2
    have e3 := hy xs hH
    rw [hv] at e3; cases e3
    have sB : Same B (upd B T (.tup [.int (i : Nat), v])) := same_upd (none_of_same S.h.sub hT)
    refine ⟨_, sB, S.alloc hT, .inr ⟨rfl, _, _, _, rfl, rfl, SqT.of upd_same, (.cons ?_ (.cons ((rv.mono s).mono sB) .nil))⟩⟩
    rw [Nat.zero_add]
    exact .int _
theorem itEnumT {a : Addr} {xs : List V} {ds : List PyData} (h : SqT K B1 a xs) (r : Reps K B1 xs ds) : ItOk true K B1 (IteT K a) (enumF 0 ds) := fun H0 B0 fx B H σ env i s S => by
  have hH : SqT K H a xs := same_seqT S.h.sub (same_seqT s h)
  refine ⟨fun hl => ⟨xs, hH, by rw [r.length]; rw [enumF_length] at hl; exact hl⟩, fun d hd => ?_⟩
  rw [enumF_get] at hd
  cases q : ds[i]? with
  | none => rw [q] at hd; cases hd
  | some d' =>
    rw [q] at hd; cases hd
    obtain ⟨v, hv, rv⟩ := r.get q
    refine ⟨⟨xs, v, hH, hv⟩, fun x H' ⟨T, y, e1, hT, e2, hy⟩ => ?_⟩
    subst e1 e2
    have e3 := hy xs hH
    rw [hv] at e3; cases e3
    have sB : Same B (upd B T (.tup [.int (i : Nat), v])) := same_upd (none_of_same S.h.sub hT)
    refine ⟨_, sB, S.alloc hT, .inr ⟨rfl, _, _, _, rfl, rfl, SqT.of upd_same, (.cons ?_ (.cons ((rv.mono s).mono sB) .nil))⟩⟩
    rw [Nat.zero_add]
    exact .int _
theorem zipF_get : ∀ (xs ys : List PyData) (i : Nat), (zipF xs ys)[i]? = match xs[i]?, ys[i]? with | some x, some y => some (.tuple [x, y]) | _, _ => none
  | [], _, _ => by simp [zipF]
  | _ :: _, [], i => by
    unfold zipF
    cases (_ :: _)[i]? <;> simp
  | x :: xs, y :: ys, 0 => rfl
  | x :: xs, y :: ys, i + 1 => by
    unfold zipF
    rw [List.getElem?_cons_succ, List.getElem?_cons_succ, List.getElem?_cons_succ]
    exact zipF_get xs ys i
theorem zipF_length : ∀ (xs ys : List PyData), (zipF xs ys).length = min xs.length ys.length
  | [], _ => by simp [zipF]
  | _ :: _, [] => by simp [zipF]
  | x :: xs, y :: ys => by
    unfold zipF
    rw [List.length_cons, List.length_cons, List.length_cons, zipF_length xs ys]
    omega
theorem zipF_some {xs ys : List PyData} {i : Nat} {d : PyData} (h : (zipF xs ys)[i]? = some d) : ∃ x y, xs[i]? = some x ∧ ys[i]? = some y ∧ d = .tuple [x, y] := by
  rw [zipF_get] at h
  split at h
  · rename_i x y hx hy
    exact ⟨x, y, hx, hy, (Option.some.inj h).symm⟩
  · cases h
theorem itZip {a b : Addr} {xs ys : List V} {ds es : List PyData} (h : SqL K B1 a xs) (r : Reps K B1 xs ds) (h' : SqL K B1 b ys) (r' : Reps K B1 ys es) : ItOk true K B1 (Itz K a b) (zipF ds es) := fun H0 B0 fx B H σ env i s S => by
  have hH : SqL K H a xs := S.h.sub.seq (s.seq h)
  have hH' : SqL K H b ys := S.h.sub.seq (s.seq h')
  refine ⟨fun hl => ⟨xs, ys, hH, hH', by rw [r.length, r'.length]; rw [zipF_length] at hl; omega⟩, fun d hd => ?_⟩
  obtain ⟨d1, d2, q1, q2, rfl⟩ := zipF_some hd
  obtain ⟨v, hv, rv⟩ := r.get q1
  obtain ⟨w, hw, rw'⟩ := r'.get q2
  refine ⟨⟨xs, ys, v, w, hH, hH', hv, hw⟩, fun x H' ⟨T, y, z, e1, hT, e2, hy, hz⟩ => ?_⟩
  subst e1 e2
  have e3 := hy xs hH
  have e4 := hz ys hH'
  rw [hv] at e3; cases e3
  rw [hw] at e4; cases e4
  have sB : Same B (upd B T (.tup [v, w])) := same_upd (none_of_same S.h.sub hT)
  exact ⟨_, sB, S.alloc hT, .inr ⟨rfl, _, _, _, rfl, rfl, SqT.of upd_same, (.cons ((rv.mono s).mono sB) (.cons ((rw'.mono s).mono sB) .nil))⟩⟩
theorem itZipT {a b : Addr} {xs ys : List V} {ds es : List PyData} (h : SqT K B1 a xs) (r : Reps K B1 xs ds) (h' : SqT K B1 b ys) (r' : Reps K B1 ys es) : ItOk true K B1 (RZ.ItzT K a b) (zipF ds es) := fun H0 B0 fx B H σ env i s S => by
  have hH : SqT K H a xs := same_seqT S.h.sub (same_seqT s h)
  have hH' : SqT K H b ys := same_seqT S.h.sub (same_seqT s h')
  refine ⟨fun hl => ⟨xs, ys, hH, hH', by rw [r.length, r'.length]; rw [zipF_length] at hl; omega⟩, fun d hd => ?_⟩
  obtain ⟨d1, d2, q1, q2, rfl⟩ := zipF_some hd
  obtain ⟨v, hv, rv⟩ := r.get q1
  obtain ⟨w, hw, rw'⟩ := r'.get q2
  refine ⟨⟨xs, ys, v, w, hH, hH', hv, hw⟩, fun x H' ⟨T, y, z, e1, hT, e2, hy, hz⟩ => ?_⟩
  subst e1 e2
  have e3 := hy xs hH
  have e4 := hz ys hH'
  rw [hv] at e3; cases e3
  rw [hw] at e4; cases e4
  have sB : Same B (upd B T (.tup [v, w])) := same_upd (none_of_same S.h.sub hT)
  exact ⟨_, sB, S.alloc hT, .inr ⟨rfl, _, _, _, rfl, rfl, SqT.of upd_same, (.cons ((rv.mono s).mono sB) (.cons ((rw'.mono s).mono sB) .nil))⟩⟩
theorem rev_get {α : Type} {xs : List α} {i : Nat} (h : i < xs.length) : xs.reverse[i]? = xs[xs.length - 1 - i]? := by
  rw [List.getElem?_reverse h]
theorem itRev {a : Addr} {xs : List V} {ds : List PyData} (h : SqL K B1 a xs) (r : Reps K B1 xs ds) : ItOk w K B1 (Itv K a xs.length) ds.reverse := fun H0 B0 fx B H σ env i s S => by
  have hH : SqL K H a xs := S.h.sub.seq (s.seq h)
  refine ⟨fun hl => ?_, fun d hd => ?_⟩
  · rw [List.length_reverse, ← r.length] at hl; exact hl
  · have hi : i < ds.length := by
      rcases Nat.lt_or_ge i ds.length with h | h
      · exact h
      · rw [List.getElem?_eq_none (by rw [List.length_reverse]; exact h)] at hd; cases hd
    rw [rev_get hi] at hd
    obtain ⟨v, hv, rv⟩ := r.get hd
    rw [← r.length] at hv
    refine ⟨⟨by rw [r.length]; exact hi, xs, v, hH, hv⟩, fun x H' ⟨e, y⟩ => ?_⟩
    subst e
    have e2 := y xs hH
    rw [hv] at e2; cases e2
    exact ⟨B, Same.refl B, S, .inl (rv.mono s)⟩
theorem itRevT {a : Addr} {xs : List V} {ds : List PyData} (h : SqT K B1 a xs) (r : Reps K B1 xs ds) : ItOk w K B1 (RT.ItvT K a xs.length) ds.reverse := fun H0 B0 fx B H σ env i s S => by
  have hH : SqT K H a xs := same_seqT S.h.sub (same_seqT s h)
  refine ⟨fun hl => ?_, fun d hd => ?_⟩
  · rw [List.length_reverse, ← r.length] at hl; exact hl
  · have hi : i < ds.length := by
      rcases Nat.lt_or_ge i ds.length with h | h
      · exact h
      · rw [List.getElem?_eq_none (by rw [List.length_reverse]; exact h)] at hd; cases hd
    rw [rev_get hi] at hd
    obtain ⟨v, hv, rv⟩ := r.get hd
    rw [← r.length] at hv
    refine ⟨⟨by rw [r.length]; exact hi, xs, v, hH, hv⟩, fun x H' ⟨e, y⟩ => ?_⟩
    subst e
    have e2 := y xs hH
    rw [hv] at e2; cases e2
    exact ⟨B, Same.refl B, S, .inl (rv.mono s)⟩
end

section
variable {X : Cx} {W : WX} {tg : Expr}
theorem repL {K : PySem.W.Frag} {B : Hp} {v : V} {ds : List PyData} (r : Rep K B v (.list ds)) : ∃ a xs, v = .ref a ∧ SqL K B a xs ∧ Reps K B xs ds := by cases r with | lst h r => exact ⟨_, _, rfl, h, r⟩
theorem repT {K : PySem.W.Frag} {B : Hp} {v : V} {ds : List PyData} (r : Rep K B v (.tuple ds)) : ∃ a xs, v = .ref a ∧ SqT K B a xs ∧ Reps K B xs ds := by cases r with | tup h r => exact ⟨_, _, rfl, h.sq, r⟩
/-- what is frozen is walked -/
theorem iseq_ok {e : Expr} {f : M PyData} (h : PE X e (tD X W f)) : PI X tg e (tI X W (twE tg) (iSeq f)) :=
  ((pi_list h).or ((pi_tup h).or (pi_str h))).imp fun σ H R ⟨H0, B0, fx, B, env, rr, S, hr, post⟩ => by
    unfold iSeq at hr
    rcases bnd_some hr with ⟨d, e1, k1, k2⟩ | ⟨c, e1, k1, rfl⟩
    · split at k2
      · rename_i ds hd
        cases k2
        unfold itemsD at hd
        split at hd
        · cases hd
          refine .inl ⟨H0, B0, fx, B, env, _, S, k1, fun v H1 B1 s1 S1 r1 => ?_⟩
          obtain ⟨a, xs, rfl, h1, h2⟩ := repL r1
          exact ⟨a, rfl, ⟨xs, S1.h.sub.seq h1⟩, post _ H1 B1 s1 S1 (itList h1 h2)⟩
        · cases hd
          refine .inr (.inl ⟨H0, B0, fx, B, env, _, S, k1, fun v H1 B1 s1 S1 r1 => ?_⟩)
          obtain ⟨a, xs, rfl, h1, h2⟩ := repT r1
          exact ⟨a, rfl, ⟨xs, same_seqT S1.h.sub h1⟩, post _ H1 B1 s1 S1 (itTup h1 h2)⟩
        · cases hd
          refine .inr (.inr ⟨H0, B0, fx, B, env, _, S, k1, fun v H1 B1 s1 S1 r1 => ?_⟩)
          cases r1
          exact ⟨_, rfl, post _ H1 B1 s1 S1 (itStr _)⟩
        · cases hd
      · cases k2
    · exact .inl ⟨H0, B0, fx, B, env, _, S, k1, post⟩
theorem irange1_ok {a : Expr} {p pos : Pos} {g : M (List Opd)} (hg : Gl X "range") (hm : X.mg "range" = none) (ha : PA X [a] (tA X W g)) (hs : starEach [a] X.env = [(false, eval a X.env)]) : PI X tg (.Call (.Name "range" p) [a] [] pos) (tI X W (twE tg) (fun env => bnd (g env) fun os e => if os.length = 1 then iRange (fun e => some (.ok os e)) e else none)) :=
  (pi_range1 hg hm ha hs).imp fun σ H R ⟨H0, B0, fx, B, env, rr, S, hr, post⟩ => by
    rcases bnd_some hr with ⟨os, e1, k1, k2⟩ | ⟨c, e1, k1, rfl⟩
    · refine ⟨H0, B0, fx, B, env, _, S, k1, fun vs H1 B1 s1 S1 o1 => ?_⟩
      split at k2
      · rename_i hn
        unfold iRange at k2
        simp only [bnd_ok] at k2
        split at k2
        · rename_i us hu
          split at k2
          · rename_i ds hd
            cases k2
            have ro := o1.get S1 hu
            unfold rangeD at hd
            split at hd
            · split at hd
              · rename_i j hj
                cases hd
                obtain ⟨x, rfl, r⟩ := ro1 ro
                cases r.int
                exact ⟨j, rfl, hj.1, hj.2, post _ H1 B1 s1 S1 (itRange 0 _)⟩
              · cases hd
            · obtain ⟨x, y, rfl, _, _⟩ := ro2 ro
              cases o1 with | cons _ t => cases t with | cons _ t => cases hn
            · cases hd
          · cases k2
        · cases k2
      · cases k2
    · exact ⟨H0, B0, fx, B, env, _, S, k1, post⟩
theorem irange2_ok {a b : Expr} {p pos : Pos} {g : M (List Opd)} (hg : Gl X "range") (hm : X.mg "range" = none) (ha : PA X [a, b] (tA X W g)) (hs : starEach [a, b] X.env = [(false, eval a X.env), (false, eval b X.env)]) (hs2 : starEach [b] X.env = [(false, eval b X.env)]) :
    PI X tg (.Call (.Name "range" p) [a, b] [] pos) (tI X W (twE tg) (fun env => bnd (g env) fun os e => if os.length = 2 then iRange (fun e => some (.ok os e)) e else none)) :=
  (pi_range2 hg hm ha hs hs2).imp fun σ H R ⟨H0, B0, fx, B, env, rr, S, hr, post⟩ => by
    rcases bnd_some hr with ⟨os, e1, k1, k2⟩ | ⟨c, e1, k1, rfl⟩
    · refine ⟨H0, B0, fx, B, env, _, S, k1, fun vs H1 B1 s1 S1 o1 => ?_⟩
      split at k2
      · rename_i hn
        unfold iRange at k2
        simp only [bnd_ok] at k2
        split at k2
        · rename_i us hu
          split at k2
          · rename_i ds hd
            cases k2
            have ro := o1.get S1 hu
            unfold rangeD at hd
            split at hd
            · obtain ⟨x, rfl, _⟩ := ro1 ro
              cases o1 with | cons _ t => cases t; cases hn
            · split at hd
              · rename_i i j hj
                cases hd
                obtain ⟨x, y, rfl, r, r'⟩ := ro2 ro
                cases r.int
                cases r'.int
                exact ⟨i, j, rfl, hj, post _ H1 B1 s1 S1 (itRange i _)⟩
              · cases hd
            · cases hd
          · cases k2
        · cases k2
      · cases k2
    · exact ⟨H0, B0, fx, B, env, _, S, k1, post⟩
theorem ienum_ok {e : Expr} {p pos tpos : Pos} {elts : List Expr} {kk : Nat} {f : M PyData} (hg : Gl X "enumerate") (hm : X.mg "enumerate" = none) (h : PE X e (tD X W f)) (hs : starEach [e] X.env = [(false, eval e X.env)]) :
    PI X (.Tuple elts kk tpos) (.Call (.Name "enumerate" p) [e] [] pos) (tI X W true (iEnumD f)) :=
  ((pi_enum hg hm (pa_cons h pa_nil hs) hs).or (pi_enumT hg hm (pa_cons h pa_nil hs) hs)).imp fun σ H R ⟨H0, B0, fx, B, env, rr, S, hr, post⟩ => by
    unfold iEnumD at hr
    rcases bnd_some hr with ⟨d, e1, k1, k2⟩ | ⟨c, e1, k1, rfl⟩
    · cases d with
      | list ds =>
        cases k2
        refine .inl ⟨H0, B0, fx, B, env, _, S, k1, fun v H1 B1 s1 S1 r1 => ?_⟩
        obtain ⟨a, xs, rfl, h1, h2⟩ := repL r1
        exact ⟨a, xs, rfl, S1.h.sub.seq h1, post _ H1 B1 s1 S1 (itEnum h1 h2)⟩
      | tuple ds =>
        cases k2
        refine .inr ⟨H0, B0, fx, B, env, _, S, k1, fun v H1 B1 s1 S1 r1 => ?_⟩
        obtain ⟨a, xs, rfl, h1, h2⟩ := repT r1
        exact ⟨a, xs, rfl, same_seqT S1.h.sub h1, post _ H1 B1 s1 S1 (itEnumT h1 h2)⟩
      | _ => cases k2
    · exact .inl ⟨H0, B0, fx, B, env, _, S, k1, post⟩
theorem izip_ok {e e2 : Expr} {p pos tpos : Pos} {elts : List Expr} {kk : Nat} {f g : M PyData} (hg : Gl X "zip") (hm : X.mg "zip" = none) (h : PE X e (tD X W f)) (h2 : PE X e2 (tD X W g)) (hs : starEach [e, e2] X.env = (false, eval e X.env) :: starEach [e2] X.env) (hs2 : starEach [e2] X.env = (false, eval e2 X.env) :: starEach [] X.env)
    (hpl : (backTo pos (starEach [e2] X.env)).any (·.1) = false) : PI X (.Tuple elts kk tpos) (.Call (.Name "zip" p) [e, e2] [] pos) (tI X W true (iZipD f g)) :=
  (RZ.pi_zipA hg hm (pa_cons h (pa_cons h2 pa_nil hs2) hs) hs hpl).imp fun σ H R ⟨H0, B0, fx, B, env, rr, S, hr, post⟩ => by
    unfold iZipD at hr
    rcases bnd_some hr with ⟨d, e1, k1, k2⟩ | ⟨c, e1, k1, rfl⟩
    · refine ⟨H0, B0, fx, B, env, _, S, k1, fun v H1 B1 s1 S1 r1 => ?_⟩
      rcases bnd_some k2 with ⟨d', e2, k3, k4⟩ | ⟨c, e2, k3, rfl⟩
      · refine ⟨H0, B0, fx, B1, e1, _, S1, k3, fun v' H2 B2 s2 S2 r2 => ?_⟩
        split at k4
        · rename_i ds hd
          cases k4
          unfold zipItems at hd
          split at hd
          · cases hd
            obtain ⟨a, xs, rfl, h1, h2⟩ := repL (r1.mono s2)
            obtain ⟨b, ys, rfl, h3, h4⟩ := repL r2
            exact ⟨a, b, xs, ys, rfl, .inl ⟨S2.h.sub.seq h1, S2.h.sub.seq h3, post _ H2 B2 (s1.trans s2) S2 (itZip h1 h2 h3 h4)⟩⟩
          · cases hd
            obtain ⟨a, xs, rfl, h1, h2⟩ := repT (r1.mono s2)
            obtain ⟨b, ys, rfl, h3, h4⟩ := repT r2
            exact ⟨a, b, xs, ys, rfl, .inr ⟨same_seqT S2.h.sub h1, same_seqT S2.h.sub h3, post _ H2 B2 (s1.trans s2) S2 (itZipT h1 h2 h3 h4)⟩⟩
          · cases hd
        · cases k4
      · exact ⟨H0, B0, fx, B1, e1, _, S1, k3, fun H' B' a s2 S2 hm => post H' B' a (s1.trans s2) S2 hm⟩
    · exact ⟨H0, B0, fx, B, env, _, S, k1, post⟩
theorem irev_ok {e : Expr} {p pos : Pos} {f : M PyData} (hg : Gl X "reversed") (hm : X.mg "reversed" = none) (h : PE X e (tD X W f)) (hs : starEach [e] X.env = (false, eval e X.env) :: starEach [] X.env) :
    PI X tg (.Call (.Name "reversed" p) [e] [] pos) (tI X W (twE tg) (iRevD f)) :=
  (RT.pi_revA hg hm h hs).imp fun σ H R ⟨H0, B0, fx, B, env, rr, S, hr, post⟩ => by
    unfold iRevD at hr
    rcases bnd_some hr with ⟨d, e1, k1, k2⟩ | ⟨c, e1, k1, rfl⟩
    · refine ⟨H0, B0, fx, B, env, _, S, k1, fun v H1 B1 s1 S1 r1 => ?_⟩
      split at k2
      · rename_i ds hd
        cases k2
        unfold revItems at hd
        split at hd
        · cases hd
          obtain ⟨a, xs, rfl, h1, h2⟩ := repL r1
          exact ⟨a, xs, rfl, .inl ⟨S1.h.sub.seq h1, post _ H1 B1 s1 S1 (itRev h1 h2)⟩⟩
        · cases hd
          obtain ⟨a, xs, rfl, h1, h2⟩ := repT r1
          exact ⟨a, xs, rfl, .inr ⟨same_seqT S1.h.sub h1, post _ H1 B1 s1 S1 (itRevT h1 h2)⟩⟩
        · cases hd
      · cases k2
    · exact ⟨H0, B0, fx, B, env, _, S, k1, post⟩
end
end PyI

namespace PyI
open PySem PySem.Spec L2 PyProof.Rows

/-! ## targets -/
abbrev TgF := PyData → Ev → Option Ev
def tG (X : Cx) (w : Bool) (sl : List Nat) (f : TgF) : TG := fun v σ H Q => ∃ H0 B0 fx B env env' d, Sim X.K H0 B0 fx B H σ env ∧ RepW w X.K B v d ∧ f d env = some env' ∧
  ∀ σ', Sim X.K H0 B0 fx B H σ' env' → (∀ vs : List Nat, (∀ s ∈ sl, s ∈ vs) → wipe σ' vs = wipe σ vs) → Q σ' H
def tGs (X : Cx) (sl : List Nat) (f : List PyData → Ev → Option Ev) : TGs := fun vs σ H Q => ∃ H0 B0 fx B env env' ds, Sim X.K H0 B0 fx B H σ env ∧ Reps X.K B vs ds ∧ f ds env = some env' ∧
  ∀ σ', Sim X.K H0 B0 fx B H σ' env' → (∀ vs : List Nat, (∀ s ∈ sl, s ∈ vs) → wipe σ' vs = wipe σ vs) → Q σ' H
theorem _root_.L2.PG.imp {X : Cx} {e : Expr} {t t' : TG} (h : PG X e t) (i : ∀ v σ H Q, t' v σ H Q → t v σ H Q) : PG X e t' := ⟨fun pins s σ H v u Q I r q => h.run pins s σ H v u Q I r (i v σ H Q q)⟩
theorem _root_.L2.PGs.imp {X : Cx} {e : List Expr} {t t' : TGs} (h : PGs X e t) (i : ∀ v σ H Q, t' v σ H Q → t v σ H Q) : PGs X e t' := ⟨fun pins s σ H v u Q I r q => h.run pins s σ H v u Q I r (i v σ H Q q)⟩
theorem wipe_get (σ : L2.St) (i : Nat) : ∀ vs : List Nat, (wipe σ vs)[i]? = if i ∈ vs then (σ[i]?).map (fun _ => none) else σ[i]?
  | [] => by simp [wipe]
  | v :: vs => by
    unfold wipe
    by_cases h : i = v
    · subst h
      by_cases hl : i < (wipe σ vs).length
      · rw [List.getElem?_set_self hl]
        rw [wipe_length] at hl
        rw [List.getElem?_eq_getElem hl]
        simp
      · rw [List.getElem?_eq_none (by rw [List.length_set]; omega)]
        rw [wipe_length] at hl
        rw [List.getElem?_eq_none (by omega)]
        simp
    · rw [List.getElem?_set_ne (fun e => h e.symm), wipe_get σ i vs]
      simp [h]
theorem wipe_set {σ : L2.St} {i : Nat} {o : Option V} {vs : List Nat} (h : i ∈ vs) : wipe (σ.set i o) vs = wipe σ vs := by
  apply List.ext_getElem?
  intro j
  rw [wipe_get, wipe_get]
  by_cases hj : j ∈ vs
  · rw [if_pos hj, if_pos hj]
    by_cases e : j = i
    · subst e
      by_cases hl : j < σ.length
      · rw [List.getElem?_set_self hl, List.getElem?_eq_getElem hl]; rfl
      · rw [List.getElem?_eq_none (by rw [List.length_set]; omega), List.getElem?_eq_none (by omega)]
    · rw [get_set_ne e]
  · rw [if_neg hj, if_neg hj, get_set_ne (fun e => hj (by rw [e]; exact h))]
def gN (i : Nat) : TgF := fun d env => some (env.set i (.val d))
def gN0 : List PyData → Ev → Option Ev
  | [], env => some env
  | _, _ => none
def gNC (f : TgF) (g : List PyData → Ev → Option Ev) : List PyData → Ev → Option Ev
  | d :: ds, env => match f d env with
    | some e => g ds e
    | none => none
  | [], _ => none
def gT (g : List PyData → Ev → Option Ev) (n : Nat) : TgF := fun d env =>
  match d with
  | .tuple ds => if ds.length = n then g ds env else none
  | .list ds => if ds.length = n then g ds env else none
  | _ => none
theorem _root_.L2.PG.or {X : Cx} {e : Expr} {t t' : TG} (h : PG X e t) (h' : PG X e t') : PG X e (fun v σ H Q => t v σ H Q ∨ t' v σ H Q) := ⟨fun pins s σ H v u Q I r q => by
  rcases q with q | q
  · exact h.run pins s σ H v u Q I r q
  · exact h'.run pins s σ H v u Q I r q⟩
section
variable {X : Cx} {W : WX}
theorem gname_ok {i : Nat} {x : PySem.Str} {pos : Pos} (hN : X.N.Nodup) (hi : X.N[i]? = some x) (hx : Loc X.env.scope x) (hf : X.fn x = true ∨ X.env.scope.names.lookup x = some .local) : PG X (.Name x pos) (tG X false [i] (gN i)) :=
  (pg_name hN hi hx hf).imp fun v σ H Q ⟨H0, B0, fx, B, env, env', d, S, r, e, q⟩ => by
    cases e
    have r : Rep X.K B v d := by
      rcases r with r | ⟨z, _⟩
      · exact r
      · cases z
    exact q _ (S.setVal r) fun vs h => wipe_set (h i (List.mem_singleton.mpr rfl))
theorem gnil_ok : PGs X [] (tGs X [] gN0) := pgs_nil.imp fun v σ H Q ⟨H0, B0, fx, B, env, env', ds, S, r, e, q⟩ => by
  cases r with
  | nil => cases e; exact ⟨rfl, q σ S fun _ _ => rfl⟩
  | cons _ _ => cases e
theorem reps_split {K : PySem.W.Frag} {B : Hp} {vs : List V} {ds : List PyData} (r : Reps K B vs ds) : (vs = [] ∧ ds = []) ∨ ∃ v ws d es, vs = v :: ws ∧ ds = d :: es ∧ Rep K B v d ∧ Reps K B ws es := by
  cases r with
  | nil => exact .inl ⟨rfl, rfl⟩
  | cons r t => exact .inr ⟨_, _, _, _, rfl, rfl, r, t⟩
theorem gcons_ok {e : Expr} {es : List Expr} {sl sl' : List Nat} {f : TgF} {g : List PyData → Ev → Option Ev} (h1 : PG X e (tG X (twE e) sl f)) (h2 : PGs X es (tGs X sl' g)) (hs : (assignEach (e :: es) X.env).map (·.2) = assign e X.env :: (assignEach es X.env).map (·.2)) :
    PGs X (e :: es) (tGs X (sl ++ sl') (gNC f g)) := (pgs_cons h1 h2 hs).imp fun v σ H Q ⟨H0, B0, fx, B, env, env', ds, S, r, e, q⟩ => by
  rcases reps_split r with ⟨_, rfl⟩ | ⟨w, ws, d, es, rfl, rfl, r1, t⟩
  · cases e
  · have e' : (match f d env with | some e => g es e | none => none) = some env' := e
    cases q1 : f d env with
    | none => rw [q1] at e'; cases e'
    | some e1 =>
      rw [q1] at e'
      refine ⟨w, ws, rfl, H0, B0, fx, B, env, e1, d, S, .inl r1, q1, fun σ1 S1 w1 => ?_⟩
      exact ⟨H0, B0, fx, B, e1, env', es, S1, t, e', fun σ2 S2 w2 => q σ2 S2 fun vs h => (w2 vs fun s hs => h s (List.mem_append_right _ hs)).trans (w1 vs fun s hs => h s (List.mem_append_left _ hs))⟩
theorem gtup_ok {es : List Expr} {k : Nat} {pos : Pos} {sl : List Nat} {g : List PyData → Ev → Option Ev} {n : Nat} (hc : X.calm = true) (h : PGs X es (tGs X sl g)) (hn : (assignEach es X.env).length = n) (hst : (assignEach es X.env).findIdx? (·.1) = none) :
    PG X (.Tuple es k pos) (tG X true sl (gT g n)) := ((pg_tup hc h hn hst).or (pg_unl hc h hn hst)).imp fun v σ H Q ⟨H0, B0, fx, B, env, env', d, S, r, e, q⟩ => by
  unfold gT at e
  split at e
  · split at e
    · rename_i ds hl
      obtain ⟨a, xs, rfl, h1, h2⟩ : ∃ a xs, v = .ref a ∧ SqT X.K B a xs ∧ Reps X.K B xs ds := by
        rcases r with r | ⟨_, a, xs, ds', e1, e2, h1, h2⟩
        · exact repT r
        · cases e2; exact ⟨a, xs, e1, h1, h2⟩
      exact .inl ⟨a, xs, rfl, same_seqT S.h.sub h1, by rw [h2.length]; exact hl, H0, B0, fx, B, env, env', ds, S, h2, e, q⟩
    · cases e
  · split at e
    · rename_i ds hl
      obtain ⟨a, xs, rfl, h1, h2⟩ : ∃ a xs, v = .ref a ∧ SqL X.K B a xs ∧ Reps X.K B xs ds := by
        rcases r with r | ⟨_, a, xs, ds', e1, e2, h1, h2⟩
        · exact repL r
        · cases e2
      exact .inr ⟨a, xs, rfl, S.h.sub.seq h1, by rw [h2.length]; exact hl, H0, B0, fx, B, env, env', ds, S, h2, e, q⟩
    · cases e
  · cases e

/-! ## comprehensions -/
def wipeE (env : Ev) : List Nat → Ev
  | [] => env
  | v :: vs => (wipeE env vs).set v .und
def keepVal : Option Slot → Slot
  | some (.val d) => .val d
  | _ => .und
/-- the block's slots come back -/
def backE (env e : Ev) : List Nat → Ev
  | [] => e
  | v :: vs => (backE env e vs).set v (keepVal env[v]?)
def compL (tg : TgF) (test : M Bool) (elt : M PyData) (vs : List Nat) : List PyData → List PyData → Ev → Option (List PyData × Ev)
  | [], acc, e => some (acc, e)
  | d :: ds, acc, e => match tg d (wipeE e vs) with
    | none => none
    | some e1 => match test e1 with
      | some (.ok true e2) => match elt e2 with
        | some (.ok y e3) => if acc.length < sizeLine then compL tg test elt vs ds (acc ++ [y]) e3 else none
        | _ => none
      | some (.ok false e2) => compL tg test elt vs ds acc e2
      | _ => none
def fComp (it : M (List PyData)) (tg : TgF) (test : M Bool) (elt : M PyData) (vs : List Nat) : M (PyData × Bool) := fun env => bnd (it env) fun ds e =>
  match compL tg test elt vs ds [] e with
  | some (ys, e') => some (.ok (.list ys, true) (backE e e' vs))
  | none => none
theorem setUnd {K : PySem.W.Frag} {H0 B0 B H : Hp} {fx : List (Addr × HO)} {σ : L2.St} {env : Ev} (S : Sim K H0 B0 fx B H σ env) (i : Nat) (o : Option V) : Sim K H0 B0 fx B H (σ.set i o) (env.set i .und) := by
  have fj : ∀ {j : Nat} {xs : Cn}, (env.set i .und)[j]? = some (Slot.ob xs) → j ≠ i := fun {j xs} ej z => by
    subst z
    by_cases hl : j < env.length
    · rw [List.getElem?_set_self hl] at ej; cases ej
    · rw [List.getElem?_eq_none (by rw [List.length_set]; omega)] at ej; cases ej
  refine ⟨S.h, by rw [List.length_set, List.length_set]; exact S.len, fun j s q => ?_, fun j k q xs ys ej ek => ?_, fun q hq j xs ej => ?_⟩
  · by_cases hj : j = i
    · subst hj
      have hl : j < env.length := by
        rcases Nat.lt_or_ge j env.length with h | h
        · exact h
        · rw [List.getElem?_eq_none (by rw [List.length_set]; exact h)] at q; cases q
      rw [List.getElem?_set_self hl] at q; cases q
      exact ⟨_, List.getElem?_set_self (by rw [S.len]; exact hl), trivial⟩
    · rw [get_set_ne hj] at q
      rw [get_set_ne hj]; exact S.slot j s q
  · have hj := fj ej
    have hk := fj ek
    rw [get_set_ne hj] at ej
    rw [get_set_ne hk] at ek
    rw [get_set_ne hj, get_set_ne hk]
    exact S.inj j k q xs ys ej ek
  · have hj := fj ej
    rw [get_set_ne hj] at ej
    rw [get_set_ne hj]; exact S.fxo q hq j xs ej
theorem Sim.wipe {K : PySem.W.Frag} {H0 B0 B H : Hp} {fx : List (Addr × HO)} {σ : L2.St} {env : Ev} (S : Sim K H0 B0 fx B H σ env) : ∀ vs : List Nat, Sim K H0 B0 fx B H (L2.wipe σ vs) (wipeE env vs)
  | [] => S
  | v :: vs => setUnd (S.wipe vs) v none
theorem wipeE_length (e : Ev) : ∀ vs : List Nat, (wipeE e vs).length = e.length
  | [] => rfl
  | v :: vs => by unfold wipeE; rw [List.length_set, wipeE_length e vs]
theorem wipeE_wipe {K : PySem.W.Frag} {H0 B0 B H : Hp} {fx : List (Addr × HO)} {σ σ' : L2.St} {env : Ev} {vs : List Nat} (S : Sim K H0 B0 fx B H σ' env) (e : L2.wipe σ' vs = L2.wipe σ vs) : Sim K H0 B0 fx B H (L2.wipe σ vs) (wipeE env vs) := by
  rw [← e]; exact S.wipe vs
/-- a slot comes back -/
theorem setBack {K : PySem.W.Frag} {H0 B0 B H : Hp} {fx : List (Addr × HO)} {σ τ : L2.St} {env : Ev} (S : Sim K H0 B0 fx B H τ env) (i : Nat) (s : Option Slot) (hs : ∀ d, s = some (.val d) → ∃ v, σ[i]? = some (some v) ∧ Rep K B v d) (hl : τ.length = σ.length) :
    ∃ o, Sim K H0 B0 fx B H (τ.set i o) (env.set i (keepVal s)) ∧ (i < σ.length → σ[i]? = some o) := by
  by_cases hi : i < σ.length
  · have e : σ[i]? = some σ[i] := List.getElem?_eq_getElem hi
    cases s with
    | none => exact ⟨σ[i], setUnd S i _, fun _ => e⟩
    | some s =>
      cases s with
      | und => exact ⟨σ[i], setUnd S i _, fun _ => e⟩
      | ob ds => exact ⟨σ[i], setUnd S i _, fun _ => e⟩
      | val d =>
        obtain ⟨v, h1, h2⟩ := hs d rfl
        exact ⟨some v, S.setVal h2, fun _ => h1⟩
  · refine ⟨none, ?_, fun h => absurd h hi⟩
    have e1 : τ.set i none = τ := List.set_eq_of_length_le (by omega)
    have e2 : env.set i (keepVal s) = env := List.set_eq_of_length_le (by rw [← S.len]; omega)
    rw [e1, e2]; exact S
theorem backE_get (env e : Ev) (i : Nat) (h : i < e.length) : ∀ vs : List Nat, (backE env e vs)[i]? = if i ∈ vs then some (keepVal env[i]?) else e[i]?
  | [] => by simp [backE]
  | v :: vs => by
    have len : ∀ vs : List Nat, (backE env e vs).length = e.length := by
      intro vs
      induction vs with
      | nil => rfl
      | cons v vs ih => unfold backE; rw [List.length_set, ih]
    unfold backE
    by_cases hi : i = v
    · subst hi
      rw [List.getElem?_set_self (by rw [len]; exact h)]
      simp
    · rw [List.getElem?_set_ne (fun z => hi z.symm), backE_get env e i h vs]
      simp [hi]
theorem backE_length (env e : Ev) : ∀ vs : List Nat, (backE env e vs).length = e.length
  | [] => rfl
  | v :: vs => by unfold backE; rw [List.length_set, backE_length env e vs]
theorem Sim.back {K : PySem.W.Frag} {H0 B0 B B' H H' : Hp} {fx fx' : List (Addr × HO)} {σ : L2.St} {env e : Ev} {vs : List Nat} (S : Sim K H0 B0 fx B H σ env) (s : Same B B') (S' : Sim K H0 B0 fx' B' H' (L2.wipe σ vs) (wipeE e vs)) : Sim K H0 B0 fx' B' H' σ (backE env e vs) := by
  have hle : σ.length = e.length := by
    have := S'.len
    rw [wipe_length, wipeE_length] at this
    exact this
  have wget : ∀ i, i ∉ vs → (wipeE e vs)[i]? = e[i]? := by
    intro i hi
    have : ∀ vs : List Nat, i ∉ vs → (wipeE e vs)[i]? = e[i]? := by
      intro vs
      induction vs with
      | nil => intro _; rfl
      | cons v vs ih =>
        intro h
        rw [List.mem_cons, not_or] at h
        unfold wipeE
        rw [List.getElem?_set_ne (fun z => h.1 z.symm), ih h.2]
    exact this vs hi
  have kv : ∀ {i : Nat} {xs : Cn}, (backE env e vs)[i]? = some (Slot.ob xs) → i ∉ vs ∧ (wipeE e vs)[i]? = some (Slot.ob xs) := fun {i xs} h => by
    have hi : i < e.length := by
      rcases Nat.lt_or_ge i e.length with q | q
      · exact q
      · rw [List.getElem?_eq_none (by rw [backE_length]; exact q)] at h; cases h
    rw [backE_get env e i hi] at h
    by_cases hv : i ∈ vs
    · rw [if_pos hv] at h
      unfold keepVal at h
      split at h <;> cases h
    · rw [if_neg hv] at h
      exact ⟨hv, by rw [wget i hv]; exact h⟩
  have σget : ∀ i, i ∉ vs → (L2.wipe σ vs)[i]? = σ[i]? := fun i hi => by rw [wipe_get, if_neg hi]
  refine ⟨S'.h, by rw [backE_length]; exact hle, fun i sl q => ?_, fun i j p xs ys qi qj pi pj => ?_, fun p hp i xs q => ?_⟩
  · have hi : i < e.length := by
      rcases Nat.lt_or_ge i e.length with h | h
      · exact h
      · rw [List.getElem?_eq_none (by rw [backE_length]; exact h)] at q; cases q
    rw [backE_get env e i hi] at q
    by_cases hv : i ∈ vs
    · rw [if_pos hv] at q
      cases q
      refine ⟨σ[i]'(by omega), List.getElem?_eq_getElem (by omega), ?_⟩
      unfold keepVal
      split
      · rename_i d e1
        obtain ⟨v, h1, h2⟩ := S.val e1
        rw [List.getElem?_eq_getElem (by omega)] at h1
        exact ⟨v, Option.some.inj h1, h2.mono s⟩
      · trivial
    · rw [if_neg hv] at q
      obtain ⟨o, h1, h2⟩ := S'.slot i sl (by rw [wget i hv]; exact q)
      rw [σget i hv] at h1
      exact ⟨o, h1, h2⟩
  · obtain ⟨vi, ei⟩ := kv qi
    obtain ⟨vj, ej⟩ := kv qj
    exact S'.inj i j p xs ys ei ej (by rw [σget i vi]; exact pi) (by rw [σget j vj]; exact pj)
  · obtain ⟨vi, ei⟩ := kv q
    have := S'.fxo p hp i xs ei
    rw [σget i vi] at this
    exact this
/-- no wish about exceptions -/
abbrev W0 : WX := fun _ _ _ _ => False
theorem compRun {w : Bool} {vs : List Nat} {it : M (List PyData)} {tg : TgF} {test : M Bool} {elt : M PyData} {sl : List Nat} (hsl : ∀ s ∈ sl, s ∈ vs) : ∀ σ H Q, tE X W (fComp it tg test elt vs) σ H Q →
    tLc (tI X W w it) (tG X w sl tg) (tT X W0 test) (tD X W0 elt) vs σ H Q := by
  intro σ H Q ⟨H0, B0, fx, B, env, rr, S, hr, post⟩
  unfold fComp at hr
  rcases bnd_some hr with ⟨ds, e1, k1, k2⟩ | ⟨c, e1, k1, rfl⟩
  · refine ⟨H0, B0, fx, B, env, _, S, k1, fun J H1 B1 s1 S1 io => fun D hD => ?_⟩
    split at k2
    · rename_i ys e' hL
      cases k2
      refine ⟨fun i m H => ∃ acc accV e B2, Sim X.K H0 B0 ((D, .lst accV) :: fx) B2 H (L2.wipe σ vs) (wipeE e vs) ∧ Reps X.K B2 accV acc ∧ Same B1 B2 ∧ m = ds.length - i ∧ i ≤ ds.length ∧ compL tg test elt vs (ds.drop i) acc e = some (ys, e'), ⟨ds.length, [], [], e1, B1, (S1.fresh hD).wipe vs, .nil, Same.refl B1, by simp, Nat.zero_le _, hL⟩, ?_⟩
      rintro i m H2 ⟨acc, accV, e, B2, S2, r2, s2, rfl, hi, hc⟩
      obtain ⟨io1, io2⟩ := io _ _ _ _ _ _ _ i s2 S2
      by_cases hlt : i < ds.length
      · have ed : ds.drop i = ds[i] :: ds.drop (i + 1) := (List.drop_eq_getElem_cons hlt)
        rw [ed] at hc
        obtain ⟨go, yld⟩ := io2 ds[i] (List.getElem?_eq_getElem hlt)
        refine .inr ⟨go, fun H' => ∃ acc accV e B2, Sim X.K H0 B0 ((D, .lst accV) :: fx) B2 H' (L2.wipe σ vs) (wipeE e vs) ∧ Reps X.K B2 accV acc ∧ Same B1 B2 ∧ compL tg test elt vs (ds.drop (i + 1)) acc e = some (ys, e'), fun H' ⟨acc, accV, e, B3, S3, r3, s3, c3⟩ => ⟨_, by omega, acc, accV, e, B3, S3, r3, s3, rfl, hlt, c3⟩, fun x H3 y => ?_⟩
        obtain ⟨B3, s3, S3, r3⟩ := yld x H3 y
        unfold compL at hc
        split at hc
        · cases hc
        · rename_i ea ha
          refine ⟨H0, B0, _, B3, _, ea, _, S3, r3, ha, fun σ' S4 w4 => ?_⟩
          have w4' : L2.wipe σ' vs = L2.wipe σ vs := by
            have := w4 vs hsl
            rw [this]
            apply List.ext_getElem?
            intro j
            rw [wipe_get, wipe_get]
            by_cases hj : j ∈ vs
            · rw [if_pos hj, if_pos hj]
              cases q : σ[j]? <;> simp
            · rw [if_neg hj, if_neg hj]
          refine ⟨w4', ?_⟩
          split at hc
          · rename_i eb hb
            refine ⟨H0, B0, _, B3, ea, _, S4, hb, fun H5 B5 s5 S5 => ?_⟩
            refine iteT ?_
            split at hc
            · rename_i yd ec hy
              refine ⟨H0, B0, _, B5, eb, _, S5, hy, fun v H6 B6 s6 S6 r6 => ?_⟩
              split at hc
              · rename_i hz
                have rA := ((r2.mono s3).mono s5).mono s6
                obtain ⟨h1, _, _⟩ := S6.h.kept (D, .lst accV) List.mem_cons_self
                refine ⟨accV, h1, by rw [rA.length]; exact hz, acc ++ [yd], accV ++ [v], ec, B6, wipeE_wipe (S6.write) w4', rA.append (.one r6), ((s2.trans s3).trans s5).trans s6, hc⟩
              · cases hc
            · cases hc
          · rename_i eb hb
            refine ⟨H0, B0, _, B3, ea, _, S4, hb, fun H5 B5 s5 S5 => ?_⟩
            refine iteF ?_
            exact ⟨acc, accV, eb, B5, wipeE_wipe S5 w4', (r2.mono s3).mono s5, (s2.trans s3).trans s5, hc⟩
          · cases hc
      · have e0 : i = ds.length := by omega
        subst e0
        rw [List.drop_length] at hc
        cases hc
        refine .inl ⟨io1 (Nat.le_refl _), ?_⟩
        exact post D _ (.lst ys) H2 B2 rfl (s1.trans s2) (S1.back s2 S2) (.lst r2)
    · cases k2
  · exact ⟨H0, B0, fx, B, env, _, S, k1, post⟩
/-- the block of a comprehension -/
abbrev blkX (X : Cx) (scope : Scope) (s : Shared) (H : Hp) (C : Addr) (cl : List (PySem.Str × Addr)) (fp : List Addr) : Cx := X.blk s H scope (compEnvC scope cl C X.env) fp
theorem comp_ok {elt tgE iter : Expr} {ifs : List Expr} {scope : Scope} {own : List (PySem.Str × Nat)} {pos : Pos} {it : M (List PyData)} {tg : TgF} {sl : List Nat} {test : M Bool} {ef : M PyData} (hc : X.calm = true) (hN : X.N.Nodup) (hi : PI X tgE iter (tI X W (twE tgE) it)) (ok : BlkOk X.N X.env.scope scope own)
    (hg : ∀ s H C cl fp, PG (blkX X scope s H C cl fp) tgE (tG (blkX X scope s H C cl fp) (twE tgE) sl tg)) (hsl : ∀ s ∈ sl, s ∈ own.map (·.2)) (ht : ∀ s H C cl fp, PTs (blkX X scope s H C cl fp) ifs (tT (blkX X scope s H C cl fp) W0 test))
    (he : ∀ s H C cl fp, PE (blkX X scope s H C cl fp) elt (tD (blkX X scope s H C cl fp) W0 ef)) (hs : ∀ x, foldedSetIterable iter X.env x = pure x) :
    PE X (.ListComp elt [⟨tgE, iter, ifs, 0⟩] scope pos) (tE X W (fComp it tg test ef (own.map (·.2)))) :=
  (pe_lc hc hN hi ok hg ht he hs).imp (compRun (X := X) hsl)
def mYes : M Bool := fun env => some (.ok true env)
theorem PTs.imp {X : Cx} {ifs : List Expr} {t t' : TT} (h : PTs X ifs t) (i : ∀ σ H Q, t' σ H Q → t σ H Q) : PTs X ifs t' := ⟨fun pins s σ H Q I q => h.run pins s σ H Q I (i σ H Q q)⟩
theorem tests0 {X : Cx} : PTs X [] (tT X W mYes) := PTs.imp pts_nil fun σ H Q ⟨H0, B0, fx, B, env, rr, S, hr, post⟩ => by
  cases hr
  exact post H B (Same.refl B) S
theorem tests1 {X : Cx} {c : Expr} {t : M Bool} (h : PT X c (tT X W t)) : PTs X [c] (tT X W t) := pts_one h
end
end PyI

namespace PyI
open PySem PySem.Spec L2 PyProof.Rows

/-! # dicts: made, written -/
def fDnew : M (PyData × Bool) := fun env => some (.ok (.dict [], true) env)
theorem dnew_ok {X : Cx} {W : WX} {pos : Pos} : PE X (.Dict [] [] pos) (tE X W fDnew) := pe_dnewK.imp fun σ H Q ⟨H0, B0, fx, B, env, rr, S, hr, post⟩ => by
  cases hr
  exact fun p hp => post p _ (.dic []) _ B rfl (Same.refl B) (S.fresh hp) (.dK rfl .nil)
def putX (xs : List (NestedKey × Addr × V)) (k : NestedKey) (b : Addr) (v : V) : List (NestedKey × Addr × V) :=
  if (lookN xs k).isSome = true then xs.map fun x => if x.1 = k then (x.1, x.2.1, v) else x else xs ++ [(k, b, v)]
theorem entsN_any {w w' : World} : ∀ (xs : List (NestedKey × Addr × V)) (us : List Value), (∀ x ∈ xs, x.1.hash w = x.1.hash w') → entsN w xs us = entsN w' xs us
  | [], _, _ => by simp [entsN]
  | _ :: _, [], _ => by simp [entsN]
  | x :: xs, u :: us, h => by
    simp only [entsN]
    rw [h x List.mem_cons_self, entsN_any xs us fun y hy => h y (List.mem_cons_of_mem _ hy)]
theorem zipU_put (k : NestedKey) (v : V) (u : Value) (ru : RelV v u) : ∀ (xs : List (NestedKey × Addr × V)) (us : List Value), Vals (xs.map (·.2.2)) us →
    ∃ us', Vals ((xs.map fun x => if x.1 = k then (x.1, x.2.1, v) else x).map (·.2.2)) us' ∧ (zipU xs us).map (putAt k u) = zipU (xs.map fun x => if x.1 = k then (x.1, x.2.1, v) else x) us'
  | [], us, h => by cases h; exact ⟨[], .nil, by simp [zipU]⟩
  | x :: xs, us, h => by
    cases h with
    | @cons _ u0 _ us r t =>
      obtain ⟨us', h1, h2⟩ := zipU_put k v u ru xs us t
      by_cases e : x.1 = k
      · refine ⟨u :: us', ?_, ?_⟩
        · rw [List.map_cons, List.map_cons, if_pos e]; exact .cons ru h1
        · rw [List.map_cons, if_pos e]
          simp only [zipU, List.map_cons, h2, putAt, if_pos e]
      · refine ⟨u0 :: us', ?_, ?_⟩
        · rw [List.map_cons, List.map_cons, if_neg e]; exact .cons r h1
        · rw [List.map_cons, if_neg e]
          simp only [zipU, List.map_cons, h2, putAt, if_neg e]
theorem zipU_snoc (k : NestedKey) (b : Addr) (v : V) (u : Value) : ∀ (xs : List (NestedKey × Addr × V)) (us : List Value), us.length = xs.length → zipU (xs ++ [(k, b, v)]) (us ++ [u]) = zipU xs us ++ [(k, b, u)]
  | [], [], _ => by simp [zipU]
  | [], _ :: _, h => by simp at h
  | _ :: _, [], h => by simp at h
  | x :: xs, u0 :: us, h => by
    simp only [List.cons_append, zipU]
    rw [zipU_snoc k b v u xs us (by simpa using h)]
section
variable {K : PySem.W.Frag} {B : Hp}
theorem Reps.putAll {v : V} {d : PyData} (r : Rep K B v d) (q : DK) : ∀ {n : Nat} {xs : List (NestedKey × Addr × V)} {ps : List (PyData × PyData)} {k : NestedKey}, q = .n k → xs.length = n → ps.map (fun p => dkOf p.1) = xs.map (fun p => some (DK.n p.1)) → Reps K B (xs.map (·.2.2)) (ps.map (·.2)) →
    Reps K B ((xs.map fun x => if x.1 = k then (x.1, x.2.1, v) else x).map (·.2.2)) ((ps.map fun p => if dkOf p.1 = some q then (p.1, d) else p).map (·.2))
  | _, [], [], _, _, _, _, _ => .nil
  | _, [], _ :: _, _, _, _, h, _ => by simp at h
  | _, _ :: _, [], _, _, _, h, _ => by simp at h
  | n + 1, x :: xs, p :: ps, k, hq, hl, h, rs => by
    simp only [List.map_cons, List.cons.injEq] at h
    rw [List.map_cons, List.map_cons] at rs
    cases rs with
    | cons r1 r2 =>
      have ih := Reps.putAll r q (n := n) hq (by simpa using hl) h.2 r2
      rw [List.map_cons, List.map_cons, List.map_cons, List.map_cons]
      refine .cons ?_ ih
      by_cases e : x.1 = k
      · rw [if_pos e, if_pos (by rw [h.1, hq, e])]; exact r
      · rw [if_neg e, if_neg (by rw [h.1, hq]; intro z; cases z; exact e rfl)]; exact r1
  | 0, _ :: _, _ :: _, _, _, hl, _, _ => by simp at hl
theorem map_fst_if {α β γ : Type} (c : α × β × γ → Prop) [DecidablePred c] (v : γ) (l : List (α × β × γ)) : (l.map fun x => if c x then (x.1, x.2.1, v) else x).map (·.1) = l.map (·.1) ∧ (l.map fun x => if c x then (x.1, x.2.1, v) else x).map (fun x => x.2.1) = l.map fun x => x.2.1 := by
  constructor <;> (rw [List.map_map]; refine List.map_congr_left fun x _ => ?_; by_cases h : c x <;> simp [h])
theorem put_n {xs : List (NestedKey × Addr × V)} {ps : List (PyData × PyData)} {k : NestedKey} {b : Addr} {y : V} {d v : PyData} (hk : ps.map (fun p => dkOf p.1) = xs.map (fun p => some (DK.n p.1))) (rk : Reps K B (xs.map fun x => V.ref x.2.1) (ps.map (·.1))) (rv : Reps K B (xs.map (·.2.2)) (ps.map (·.2)))
    (rx : Rep K B (.ref b) d) (ry : Rep K B y v) (hq : dkOf d = some (.n k)) :
    putX xs k b y ≠ [] ∧ (putP ps (.n k) d v).map (fun p => dkOf p.1) = (putX xs k b y).map (fun p => some (DK.n p.1)) ∧ Reps K B ((putX xs k b y).map fun x => V.ref x.2.1) ((putP ps (.n k) d v).map (·.1)) ∧ Reps K B ((putX xs k b y).map (·.2.2)) ((putP ps (.n k) d v).map (·.2)) := by
  have hs := (look_n k hk rv).isSome
  unfold putX putP
  rw [hs]
  by_cases h : (lookP ps (.n k)).isSome = true
  · rw [if_pos h, if_pos h]
    have e1 : (ps.map fun p => if dkOf p.1 = some (DK.n k) then (p.1, v) else p).map (·.1) = ps.map (·.1) := by
      rw [List.map_map]; refine List.map_congr_left fun p _ => ?_
      by_cases z : dkOf p.1 = some (DK.n k) <;> simp [z]
    obtain ⟨f1, f2⟩ := map_fst_if (fun x : NestedKey × Addr × V => x.1 = k) y xs
    refine ⟨?_, ?_, ?_, Reps.putAll ry _ rfl rfl hk rv⟩
    · intro z
      have : xs = [] := by simpa using z
      subst this
      rw [← hs] at h
      simp [lookN] at h
    · have a1 : (ps.map fun p => if dkOf p.1 = some (DK.n k) then (p.1, v) else p).map (fun p => dkOf p.1) = (ps.map (·.1)).map dkOf := by rw [← e1]; simp [List.map_map, Function.comp_def]
      have a2 : (xs.map fun x => if x.1 = k then (x.1, x.2.1, y) else x).map (fun p => some (DK.n p.1)) = (xs.map (·.1)).map fun z => some (DK.n z) := by rw [← f1]; simp [List.map_map, Function.comp_def]
      rw [a1, a2]
      simpa [List.map_map, Function.comp_def] using hk
    · rw [e1]
      have a2 : (xs.map fun x => if x.1 = k then (x.1, x.2.1, y) else x).map (fun x => V.ref x.2.1) = (xs.map fun x => x.2.1).map V.ref := by rw [← f2]; simp [List.map_map, Function.comp_def]
      rw [a2]
      simpa [List.map_map, Function.comp_def] using rk
  · rw [if_neg h, if_neg h]
    refine ⟨by simp, ?_, ?_, ?_⟩
    · rw [List.map_append, List.map_append, hk]; simp [hq]
    · rw [List.map_append, List.map_append]; exact rk.append (.one rx)
    · rw [List.map_append, List.map_append]; exact rv.append (.one ry)
theorem Reps.putAllK {v : V} {d : PyData} (r : Rep K B v d) (k : Key) : ∀ {kvs : List (Key × V)} {ps : List (PyData × PyData)}, ps.map (fun p => dkOf p.1) = kvs.map (fun p => some (DK.k p.1)) → Reps K B (kvs.map (·.2)) (ps.map (·.2)) →
    Reps K B ((kvs.map fun x => if x.1 = k then (x.1, v) else x).map (·.2)) ((ps.map fun p => if dkOf p.1 = some (.k k) then (p.1, d) else p).map (·.2))
  | [], [], _, _ => .nil
  | [], _ :: _, h, _ => by simp at h
  | _ :: _, [], h, _ => by simp at h
  | x :: kvs, p :: ps, h, rs => by
    simp only [List.map_cons, List.cons.injEq] at h
    rw [List.map_cons, List.map_cons] at rs
    cases rs with
    | cons r1 r2 =>
      have ih := Reps.putAllK r k h.2 r2
      rw [List.map_cons, List.map_cons, List.map_cons, List.map_cons]
      refine .cons ?_ ih
      by_cases e : x.1 = k
      · rw [if_pos e, if_pos (by rw [h.1, e])]; exact r
      · rw [if_neg e, if_neg (by rw [h.1]; intro z; cases z; exact e rfl)]; exact r1
theorem put_k {kvs : List (Key × V)} {ps : List (PyData × PyData)} {k : Key} {y : V} {d v : PyData} (hk : ps.map (fun p => dkOf p.1) = kvs.map (fun p => some (DK.k p.1))) (rv : Reps K B (kvs.map (·.2)) (ps.map (·.2)))
    (ry : Rep K B y v) (hq : dkOf d = some (.k k)) : (putP ps (.k k) d v).map (fun p => dkOf p.1) = (putK kvs k y).map (fun p => some (DK.k p.1)) ∧ Reps K B ((putK kvs k y).map (·.2)) ((putP ps (.k k) d v).map (·.2)) := by
  have hs := (look_k k hk rv).isSome
  have ha : (kvs.any fun kv => decide (kv.1 = k)) = (lookP ps (.k k)).isSome := by rw [valV_any, hs]
  unfold putK putP
  rw [ha]
  by_cases h : (lookP ps (.k k)).isSome = true
  · rw [if_pos h, if_pos h]
    refine ⟨?_, Reps.putAllK ry k hk rv⟩
    have a1 : (ps.map fun p => if dkOf p.1 = some (DK.k k) then (p.1, v) else p).map (fun p => dkOf p.1) = ps.map fun p => dkOf p.1 := by
      rw [List.map_map]; refine List.map_congr_left fun p _ => ?_
      by_cases z : dkOf p.1 = some (DK.k k) <;> simp [z]
    have a2 : (kvs.map fun x => if x.1 = k then (x.1, y) else x).map (fun p => some (DK.k p.1)) = kvs.map fun p => some (DK.k p.1) := by
      rw [List.map_map]; refine List.map_congr_left fun p _ => ?_
      by_cases z : p.1 = k <;> simp [z]
    rw [a1, a2]; exact hk
  · rw [if_neg h, if_neg h]
    refine ⟨?_, ?_⟩
    · rw [List.map_append, List.map_append, hk]; simp [hq]
    · rw [List.map_append, List.map_append]; exact rv.append (.one ry)
end
section
variable {X : Cx} {pins : List (Addr × Obj)} {σ : L2.St} {H B : Hp} {s : Shared}
/-- the new content at the dict's address, after a tuple key was stored -/
theorem dn_stored (I : L2.Inv X pins σ H s) {a b : Addr} {xs : List (NestedKey × Addr × V)} {us : List Value} {k : NestedKey} {y : V} {uy : Value} {ps' : List (PyData × PyData)} {h' : Heap} {t' : Nat} {u0 : HO} (e : H a = some u0) (mu : Mut (some u0))
    (rv : Vals (xs.map (·.2.2)) us) (ry : RelV y uy) (hd : (a == sysModules) = false) (hl : xs.length < sizeLine)
    (hk : ps'.map (fun p => dkOf p.1) = (putX xs k b y).map (fun p => some (DK.n p.1)))
    (hm : h'.DictOfH (nestedKind X.prog X.w) a (storedH (zipU xs us) k b uy)) (hs : Heap.SameBut a s.heap h') :
    L2.Inv X pins σ (upd H a (.ext (DNok a (putX xs k b y)))) { s with heap := h', toks := t' } := by
  have hlen : us.length = xs.length := by have := rv.length; rw [List.length_map] at this; omega
  have sl : (lookN xs k).isSome = (atKey (zipU xs us) k).isSome := by
    have := (zipU_look k xs us rv).isSome_eq
    rw [Option.isSome_map] at this
    exact this
  have key : ∃ us', Vals ((putX xs k b y).map (·.2.2)) us' ∧ storedH (zipU xs us) k b uy = zipU (putX xs k b y) us' := by
    unfold putX storedH
    rw [sl]
    by_cases h : (atKey (zipU xs us) k).isSome = true
    · rw [if_pos h, if_pos h]; exact zipU_put k y uy ry xs us rv
    · rw [if_neg h, if_neg h]
      refine ⟨us ++ [uy], ?_, (zipU_snoc k b y uy xs us hlen).symm⟩
      rw [List.map_append]
      exact rv.append (.cons ry .nil)
  obtain ⟨us', rv', ez⟩ := key
  rw [ez] at hm
  have hlen' : us'.length = (putX xs k b y).length := by have := rv'.length; rw [List.length_map] at this; omega
  have hpl : (putX xs k b y).length ≤ sizeLine := by
    unfold putX
    split
    · rw [List.length_map]; omega
    · rw [List.length_append, List.length_singleton]; omega
  obtain ⟨o, es, ep, h1, h2, h3, h4, h5, h6⟩ := hm
  refine d_write I (by rw [e]; exact mu) hs ⟨o, h1⟩ ⟨⟨hpl, hd, us', rv', o, es, ep, h1, h2, h3, fun w => ?_, ?_⟩, ⟨o, h1⟩, fun h1 h2 ⟨q1, q2, us, q3, o, es, ep, q4, q5⟩ st => ⟨q1, q2, us, q3, o, es, ep, st _ q4, q5⟩⟩
  · rw [h4, zipU_ents]
    refine entsN_any _ _ fun x hx => ?_
    obtain ⟨i, hi, hxi⟩ := List.getElem_of_mem hx
    have lp : ps'.length = (putX xs k b y).length := by have := congrArg List.length hk; simpa using this
    have k1 : dkOf (ps'[i]'(by omega)).1 = some (.n x.1) := by
      have := congrArg (fun l => l[i]?) hk
      simp [hi, show i < ps'.length by omega, hxi] at this
      exact this
    exact dk_hash k1 _ _
  · rw [zipU_keys _ _ hlen'] at h6; exact h6
theorem d_put (hu : X.A.units + 65 < cLine) {A : Around} (hA : A.units ≤ X.A.units) {E : Value → Shared → Prop} (I : L2.Inv X pins σ H s) (sB : Same B H) {a : Addr} {u0 : HO} {ps : List (PyData × PyData)} {x y : V} {d v : PyData} {q : DK} {ux uy : Value} {Q : Unit → Shared → Prop} (e : H a = some u0) (rc : RepC X.K B a u0 (.dic ps))
    (rx : Rep X.K B x d) (ry : Rep X.K B y v) (hq : dkOf d = some q) (hk : kindOk ps q = true) (hl : ps.length < sizeLine) (r1 : RelV x ux) (r2 : RelV y uy)
    (h : ∀ u1 s', RepC X.K B a u1 (.dic (putP ps q d v)) → L2.Inv X pins σ (upd H a u1) s' → Q () s') : wpAny (model X.prog X.w) A (setItem (.ref a) ux uy) Q E s := by
  cases rc with
  | dK k1 rv =>
    rename_i kvs
    have lk : kvs.length = ps.length := by have := congrArg List.length k1; simpa using this.symm
    rcases kind_k k1 hk with ⟨q', rfl⟩ | ⟨q', rfl, rfl, rfl⟩
    · have ex := dk_k rx hq
      subst ex
      obtain ⟨p1, p2⟩ := put_k k1 rv ry hq
      exact d_setItem (by omega) I (DPut.k e (by omega)) r1 r2 fun s' I' => h _ s' (.dK p1 p2) I'
    · obtain ⟨b, rfl, is⟩ := dk_n I sB rx hq
      obtain ⟨h1, h2⟩ := dk_nil I e
      obtain rfl : ux = Value.ref b := r1
      obtain ⟨z1, z2, z3, z4⟩ := put_n (xs := []) (ps := []) (b := b) (k := q') rfl .nil .nil rx ry hq
      refine wpAny_setItem_heap (show A.units + 1 + 8 < cLine by omega) is h1 (fun h' hm hs => h _ _ (.dN z1 z2 z3 z4) ?_) (by simp)
      exact dn_stored (xs := []) (us := []) I e True.intro .nil r2 h2 (by rw [sizeLine_eq]; decide) z2 hm hs
  | dN n k1 rk rv =>
    rename_i xs
    have lk : xs.length = ps.length := by have := congrArg List.length k1; simpa using this.symm
    obtain ⟨q', rfl⟩ := kind_n n k1 hk
    obtain ⟨b, rfl, is⟩ := dk_n I sB rx hq
    obtain ⟨us, ru, h1, h2, h3⟩ := dn_at I sB e k1 rk
    obtain rfl : ux = Value.ref b := r1
    obtain ⟨z1, z2, z3, z4⟩ := put_n k1 rk rv rx ry hq
    have hz : (zipU xs us).length ≤ sizeLine := by
      have hlen : us.length = xs.length := by have := ru.length; rw [List.length_map] at this; omega
      have := congrArg List.length (zipU_keys xs us hlen)
      rw [List.length_map, List.length_map] at this
      omega
    refine wpAny_setItem_heap (show A.units + 1 + 8 < cLine by omega) is h1 (fun h' hm hs => h _ _ (.dN z1 z2 z3 z4) ?_) hz
    exact dn_stored I e True.intro ru r2 h2 (by omega) z2 hm hs
end
section
variable {X : Cx}
theorem pset_or {t t' : TSet} (h : PSet X t) (h' : PSet X t') : PSet X (fun o i v H Q => t o i v H Q ∨ t' o i v H Q) := fun pins s σ H o i v ov iv u Q I r1 r2 r3 q => by
  rcases q with q | q
  · exact h pins s σ H o i v ov iv u Q I r1 r2 r3 q
  · exact h' pins s σ H o i v ov iv u Q I r1 r2 r3 q
def rSetD (K : PySem.W.Frag) : TSet := fun o i v H Q => ∃ B a u0 ps d dv q, o = .ref a ∧ Same B H ∧ H a = some u0 ∧ RepC K B a u0 (.dic ps) ∧ Rep K B i d ∧ Rep K B v dv ∧ dkOf d = some q ∧ kindOk ps q = true ∧ ps.length < sizeLine ∧ ∀ u1, RepC K B a u1 (.dic (putP ps q d dv)) → Q (upd H a u1)
theorem set_dic (hu : X.A.units + 65 < cLine) : PSet X (rSetD X.K) := by
  intro pins s σ H o i v ov iv u Q I ro ri rv ⟨B, a, u0, ps, d, dv, q, eo, sB, e, rc, rx, ry, hq, hk, hl, h⟩
  subst eo
  obtain rfl : ov = Value.ref a := ro
  exact d_put hu (Nat.le_refl _) I sB e rc rx ry hq hk hl ri rv fun u1 s' rc' I' => ⟨_, I', h u1 rc'⟩
end
end PyI

namespace PyI
open PySem PySem.Spec L2 PyProof.Rows

/-! ## statements -/
inductive So where
  | nx (e : Ev)
  | ret (d : PyData)
  | brk (e : Ev)
  | cnt (e : Ev)
  | exc (c : PySem.Str) (e : Ev)
abbrev MS := Ev → Option So
def PostS (X : Cx) (W : WX) (H0 B0 : Hp) (fx : List (Addr × HO)) (B : Hp) (D : Ends) : So → Prop
  | .nx e => ∀ σ' H' B', Same B B' → Sim X.K H0 B0 fx B' H' σ' e → D.nx σ' H'
  | .brk e => ∀ σ' H' B', Same B B' → Sim X.K H0 B0 fx B' H' σ' e → D.bk σ' H'
  | .cnt e => ∀ σ' H' B', Same B B' → Sim X.K H0 B0 fx B' H' σ' e → D.ct σ' H'
  | .ret d => ∀ v H' B', Same B B' → HSim H0 B0 fx B' H' → Rep X.K B' v d → D.rt v H'
  | .exc c e => ∀ σ' H' B' a, Same B B' → Sim X.K H0 B0 fx B' H' σ' e → X.mg c = some (.ref a) → W (.ref a) none σ' H'
def tS (X : Cx) (W : WX) (f : MS) : TS := fun D σ H => ∃ H0 B0 fx B env r, Sim X.K H0 B0 fx B H σ env ∧ f env = some r ∧ PostS X W H0 B0 fx B D r
section
variable {X : Cx} {W : WX}
theorem PostS_trans {H0 B0 : Hp} {fx : List (Addr × HO)} {B B1 : Hp} {D : Ends} {r : So} (s : Same B B1) (post : PostS X W H0 B0 fx B D r) : PostS X W H0 B0 fx B1 D r := by
  cases r with
  | nx e => exact fun σ' H' B' s2 S2 => post σ' H' B' (s.trans s2) S2
  | brk e => exact fun σ' H' B' s2 S2 => post σ' H' B' (s.trans s2) S2
  | cnt e => exact fun σ' H' B' s2 S2 => post σ' H' B' (s.trans s2) S2
  | ret d => exact fun v H' B' s2 S2 r => post v H' B' (s.trans s2) S2 r
  | exc c e => exact fun σ' H' B' a s2 S2 hm => post σ' H' B' a (s.trans s2) S2 hm

def sSkip : MS := fun env => some (.nx env)
def sBreak : MS := fun env => some (.brk env)
def sCont : MS := fun env => some (.cnt env)
def seqK (x : Option So) (g : MS) : Option So :=
  match x with
  | some (.nx e) => g e
  | r => r
@[simp] theorem seqK_nx (e : Ev) (g : MS) : seqK (some (.nx e)) g = g e := id rfl
@[simp] theorem seqK_ret (d : PyData) (g : MS) : seqK (some (.ret d)) g = some (.ret d) := id rfl
@[simp] theorem seqK_brk (e : Ev) (g : MS) : seqK (some (.brk e)) g = some (.brk e) := id rfl
@[simp] theorem seqK_cnt (e : Ev) (g : MS) : seqK (some (.cnt e)) g = some (.cnt e) := id rfl
@[simp] theorem seqK_exc (c : PySem.Str) (e : Ev) (g : MS) : seqK (some (.exc c e)) g = some (.exc c e) := id rfl
@[simp] theorem seqK_none (g : MS) : seqK none g = none := id rfl
def sSeq (f g : MS) : MS := fun env => seqK (f env) g
theorem skip_ok : PSs X [] (tS X W sSkip) := pss_nil.imp fun D σ H ⟨H0, B0, fx, B, env, r, S, hr, post⟩ => by
  cases hr; exact post σ H B (Same.refl B) S
theorem pass_ok {pos : Pos} : PS X (.Pass pos) (tS X W sSkip) := ps_pass.imp fun D σ H ⟨H0, B0, fx, B, env, r, S, hr, post⟩ => by
  cases hr; exact post σ H B (Same.refl B) S
theorem doc_ok {x : PySem.Str} {j : Nat} {pos pos' : Pos} : PS X (.Expr (.Constant (.str x) j pos) pos') (tS X W sSkip) := ps_doc.imp fun D σ H ⟨H0, B0, fx, B, env, r, S, hr, post⟩ => by
  cases hr; exact post σ H B (Same.refl B) S
theorem break_ok {pos : Pos} : PS X (.Break pos) (tS X W sBreak) := ps_break.imp fun D σ H ⟨H0, B0, fx, B, env, r, S, hr, post⟩ => by
  cases hr; exact post σ H B (Same.refl B) S
theorem cont_ok {pos : Pos} : PS X (.Continue pos) (tS X W sCont) := ps_continue.imp fun D σ H ⟨H0, B0, fx, B, env, r, S, hr, post⟩ => by
  cases hr; exact post σ H B (Same.refl B) S
theorem seq_ok {st : Stmt} {rest : List Stmt} {f g : MS} (h1 : PS X st (tS X W f)) (h2 : PSs X rest (tS X W g)) : PSs X (st :: rest) (tS X W (sSeq f g)) :=
  (pss_cons h1 h2).imp fun D σ H ⟨H0, B0, fx, B, env, r, S, hr, post⟩ => by
    unfold sSeq at hr
    cases q : f env with
    | none => rw [q] at hr; cases hr
    | some r1 =>
      rw [q] at hr
      refine ⟨H0, B0, fx, B, env, r1, S, q, ?_⟩
      cases r1 with
      | nx e => exact fun σ' H' B' s' S' => ⟨H0, B0, fx, B', e, r, S', hr, PostS_trans s' post⟩
      | brk e => cases hr; exact post
      | cnt e => cases hr; exact post
      | ret d => cases hr; exact post
      | exc c e => cases hr; exact post
/-- an expression in a statement -/
def exK {α : Type} (x : Option (Rs α)) (k : α → Ev → Option So) : Option So :=
  match x with
  | some (.ok a e) => k a e
  | some (.exc c e) => some (.exc c e)
  | none => none
@[simp] theorem exK_ok {α : Type} (a : α) (e : Ev) (k : α → Ev → Option So) : exK (some (.ok a e)) k = k a e := id rfl
@[simp] theorem exK_exc {α : Type} (c : PySem.Str) (e : Ev) (k : α → Ev → Option So) : exK (some (.exc c e) : Option (Rs α)) k = some (.exc c e) := id rfl
@[simp] theorem exK_none {α : Type} (k : α → Ev → Option So) : exK none k = none := id rfl
theorem exK_some {α : Type} {x : Option (Rs α)} {k : α → Ev → Option So} {r : So} (h : exK x k = some r) : (∃ a e, x = some (.ok a e) ∧ k a e = some r) ∨ (∃ c e, x = some (.exc c e) ∧ r = .exc c e) := by
  cases x with
  | none => cases h
  | some y =>
    cases y with
    | ok a e => exact .inl ⟨a, e, rfl, h⟩
    | exc c e => exact .inr ⟨c, e, rfl, (Option.some.inj h).symm⟩
def sExpr (f : M PyData) : MS := fun env => exK (f env) fun _ e => some (.nx e)
def sRet (f : M PyData) : MS := fun env => exK (f env) fun d _ => some (.ret d)
def sRetN : MS := fun _ => some (.ret .none)
def setR (i : Nat) (a : PyData × Bool) (e : Ev) : Option So :=
  match a with
  | (d, false) => some (.nx (e.set i (.val d)))
  | (.list ds, true) => some (.nx (e.set i (.own ds)))
  | (.dict ps, true) => some (.nx (e.set i (.dic ps)))
  | _ => none
def sSet (i : Nat) (f : M (PyData × Bool)) : MS := fun env => exK (f env) (setR i)
def sTgt (f : M PyData) (g : TgF) : MS := fun env => exK (f env) fun d e =>
  match g d e with
  | some e' => some (.nx e')
  | none => none
def sIf (t : M Bool) (f g : MS) : MS := fun env => exK (t env) fun b e => if b = true then f e else g e
theorem expr_ok {e : Expr} {pos : Pos} {f : M PyData} (h : PE X e (tD X W f)) (hs : swapsWith e none pos.line X.env = pure false) : PS X (.Expr e pos) (tS X W (sExpr f)) :=
  (ps_expr h hs).imp fun D σ H ⟨H0, B0, fx, B, env, r, S, hr, post⟩ => by
    unfold sExpr at hr
    rcases exK_some hr with ⟨d, e1, k1, k2⟩ | ⟨c, e1, k1, rfl⟩
    · cases k2
      exact ⟨H0, B0, fx, B, env, _, S, k1, fun v H' B' s' S' _ => post σ H' B' s' S'⟩
    · exact ⟨H0, B0, fx, B, env, _, S, k1, fun H' B' a s' S' hm => post σ H' B' a s' S' hm⟩
theorem ret_ok {e : Expr} {pos : Pos} {f : M PyData} (h : PE X e (tD X W f)) : PS X (.Return (some e) pos) (tS X W (sRet f)) :=
  (ps_ret h).imp fun D σ H ⟨H0, B0, fx, B, env, r, S, hr, post⟩ => by
    unfold sRet at hr
    rcases exK_some hr with ⟨d, e1, k1, k2⟩ | ⟨c, e1, k1, rfl⟩
    · cases k2
      exact ⟨H0, B0, fx, B, env, _, S, k1, fun v H' B' s' S' r => post v H' B' s' S'.h r⟩
    · exact ⟨H0, B0, fx, B, env, _, S, k1, fun H' B' a s' S' hm => post σ H' B' a s' S' hm⟩
theorem retN_ok {pos : Pos} : PS X (.Return none pos) (tS X W sRetN) := ps_retN.imp fun D σ H ⟨H0, B0, fx, B, env, r, S, hr, post⟩ => by
  cases hr; exact post _ H B (Same.refl B) S.h .non
theorem setR_of {i : Nat} {f : M (PyData × Bool)} {D : Ends} {σ : L2.St} {H : Hp} (h : tS X W (sSet i f) D σ H) : tAsg (tE X W f) (gName i) D σ H := by
  obtain ⟨H0, B0, fx, B, env, r, S, hr, post⟩ := h
  unfold sSet at hr
  rcases exK_some hr with ⟨⟨d, b⟩, e1, k1, k2⟩ | ⟨c, e1, k1, rfl⟩
  · refine ⟨H0, B0, fx, B, env, _, S, k1, ?_⟩
    cases b with
    | false =>
      cases k2
      exact fun v H' B' s' S' r => post _ H' B' s' (S'.setVal r)
    | true =>
      intro p u c H' B' e s' S' r
      subst e
      cases c <;> cases k2 <;> exact post _ H' B' s' (S'.setOb r)
  · exact ⟨H0, B0, fx, B, env, _, S, k1, fun H' B' a s' S' hm => post σ H' B' a s' S' hm⟩
theorem set_ok {i : Nat} {x : PySem.Str} {e : Expr} {pos pos' : Pos} {f : M (PyData × Bool)} (hN : X.N.Nodup) (hi : X.N[i]? = some x) (hx : Loc X.env.scope x) (hf : X.fn x = true ∨ X.env.scope.names.lookup x = some .local) (he : PE X e (tE X W f))
    (hs : swapsWith e (some (.Name x pos')) pos.line X.env = pure false) : PS X (.Assign [.Name x pos'] e pos) (tS X W (sSet i f)) := (ps_set hN hi hx he hs hf).imp fun D σ H h => setR_of h
theorem tgt_ok {tg e : Expr} {pos : Pos} {f : M PyData} {g : TgF} {sl : List Nat} (he : PE X e (tD X W f)) (hg : PG X tg (tG X (twE tg) sl g)) (hs : swapsWithSole [tg] e pos.line X.env = pure false) (hw : swappedStores [tg] e X.env = pure none) (h1 : (assignEach [tg] X.env).map (·.2) = [assign tg X.env]) :
    PS X (.Assign [tg] e pos) (tS X W (sTgt f g)) := (ps_asg he hg hs hw h1).imp fun D σ H ⟨H0, B0, fx, B, env, r, S, hr, post⟩ => by
  unfold sTgt at hr
  rcases exK_some hr with ⟨d, e1, k1, k2⟩ | ⟨c, e1, k1, rfl⟩
  · refine ⟨H0, B0, fx, B, env, _, S, k1, fun v H' B' s' S' r => ?_⟩
    split at k2
    · rename_i e2 h2
      cases k2
      exact ⟨H0, B0, fx, B', e1, e2, d, S', .inl r, h2, fun σ' S2 _ => post σ' H' B' s' S2⟩
    · cases k2
  · exact ⟨H0, B0, fx, B, env, _, S, k1, fun H' B' a s' S' hm => post σ H' B' a s' S' hm⟩
theorem ifs_ok {c : Expr} {a b : List Stmt} {pos : Pos} {t : M Bool} {f g : MS} (hc : PT X c (tT X W t)) (ha : PSs X a (tS X W f)) (hb : PSs X b (tS X W g)) : PS X (.If c a b pos) (tS X W (sIf t f g)) :=
  (ps_if hc ha hb).imp fun D σ H ⟨H0, B0, fx, B, env, r, S, hr, post⟩ => by
    unfold sIf at hr
    rcases exK_some hr with ⟨b, e1, k1, k2⟩ | ⟨c, e1, k1, rfl⟩
    · refine ⟨H0, B0, fx, B, env, _, S, k1, fun H' B' s' S' => ?_⟩
      by_cases hb : b = true
      · rw [if_pos hb] at k2 ⊢
        exact ⟨H0, B0, fx, B', e1, r, S', k2, PostS_trans s' post⟩
      · rw [if_neg hb] at k2 ⊢
        exact ⟨H0, B0, fx, B', e1, r, S', k2, PostS_trans s' post⟩
    · exact ⟨H0, B0, fx, B, env, _, S, k1, fun H' B' a s' S' hm => post σ H' B' a s' S' hm⟩

/-! ### name op= e, x[k] = e, x[k] op= e -/
def orSlot : Or → Option Slot
  | .old d => some (.val d)
  | _ => none
def sAug (i : Nat) (op : Operator) (f : M Opd) : MS := fun env =>
  match env[i]? with
  | some (.val _) => exK (f env) fun o e =>
    match e[i]?, getO e o with
    | some (.val u), some v => match iaugD op u v with
      | some (.old d) => some (.nx (e.set i (.val d)))
      | _ => none
    | _, _ => none
  | _ => none
theorem pip_of (op : Operator) : PIp X op (rD X.K (iaugD op)) := fun pins s σ H x y v u Q I rx ry q => opAug op pins s σ H x y v u Q I rx ry q
theorem aug_ok {i : Nat} {x : PySem.Str} {e : Expr} {op : Operator} {pos pos' : Pos} {f : M Opd} (hN : X.N.Nodup) (hi : X.N[i]? = some x) (hx : Loc X.env.scope x) (hf : X.fn x = true ∨ X.env.scope.names.lookup x = some .local) (he : PE X e (tO X W f)) :
    PS X (.AugAssign (.Name x pos') op e pos) (tS X W (sAug i op f)) := (ps_aug hN hi hx he (pip_of op) hf).imp fun D σ H ⟨H0, B0, fx, B, env, r, S, hr, post⟩ => by
  unfold sAug at hr
  split at hr
  · rename_i d0 h0
    obtain ⟨w, hw, rw0⟩ := S.val h0
    refine ⟨w, hw, ?_⟩
    rcases exK_some hr with ⟨o, e1, k1, k2⟩ | ⟨c, e1, k1, rfl⟩
    · refine ⟨H0, B0, fx, B, env, _, S, k1, fun y H' B' s' S' o' => ?_⟩
      split at k2
      · rename_i u v hu hv
        split at k2
        · rename_i d hd
          cases k2
          obtain ⟨w', hw', rw'⟩ := S'.val hu
          rw [hw] at hw'; cases hw'
          exact ⟨B', u, v, _, S'.h.sub, .inl rw', o'.get S' hv, hd, fun z r => post _ H' B' s' (S'.setVal r)⟩
        · cases k2
      · cases k2
    · exact ⟨H0, B0, fx, B, env, _, S, k1, fun H' B' a s' S' hm => post σ H' B' a s' S' hm⟩
  · cases hr
/-- x[k] = e on a slot's own list -/
def sSub (i : Nat) (fk : M PyData) (fv : M PyData) : MS := fun env => exK (fv env) fun d e =>
  match e[i]? with
  | some (.ob _) => exK (fk e) fun k e2 =>
    match e2[i]? with
    | some (.ob (.lst ds)) => match k with
      | .int k => match ixN ds.length k with
        | some j => some (.nx (e2.set i (.own (ds.set j d))))
        | none => none
      | _ => none
    | some (.ob (.dic ps)) => match dkOf k with
      | some q => if kindOk ps q = true ∧ ps.length < sizeLine then some (.nx (e2.set i (.dic (putP ps q k d)))) else none
      | none => none
    | _ => none
  | _ => none
theorem sub_ok {i : Nat} {x : PySem.Str} {k e : Expr} {p ps pos : Pos} {fk fv : M PyData} (hu : X.A.units + 65 < cLine) (hN : X.N[i]? = some x) (hv : Vis X.env.scope x) (hd : (x == ("__debug__" : PySem.Str)) = false) (hcd : (x == ("__classdict__" : PySem.Str)) = false)
    (hk : PE X k (tD X W fk)) (he : PE X e (tD X W fv)) (hs : swapsWithSole [.Subscript (.Name x p) k ps] e pos.line X.env = pure false) (hw : swappedStores [.Subscript (.Name x p) k ps] e X.env = pure none)
    (h1 : (assignEach [.Subscript (.Name x p) k ps] X.env).map (·.2) = [assign (.Subscript (.Name x p) k ps) X.env])
    (ha : ∀ v, assign (.Subscript (.Name x p) k ps) X.env v = (do
      let ov ← holding [v] (eval (.Name x p) X.env)
      let iv ← holding [v, ov] (eval k X.env)
      standAt ps
      holding [v, ov, iv] (setItem ov iv v)
      release [v, ov, iv] [])) : PS X (.Assign [.Subscript (.Name x p) k ps] e pos) (tS X W (sSub i fk fv)) :=
  (ps_asg he (pg_sub (pe_var hN hv hd hcd) hk (pset_or set_list (set_dic hu)) ha) hs hw h1).imp fun D σ H ⟨H0, B0, fx, B, env, r, S, hr, post⟩ => by
    unfold sSub at hr
    rcases exK_some hr with ⟨d, e1, k1, k2⟩ | ⟨c, e1, k1, rfl⟩
    · refine ⟨H0, B0, fx, B, env, _, S, k1, fun v H1 B1 s1 S1 r1 => ?_⟩
      split at k2
      · rename_i ds0 h0
        obtain ⟨p, vs, a1, a2, a3, a4, ra⟩ := S1.ob h0
        refine ⟨.ref p, a1, ?_⟩
        rcases exK_some k2 with ⟨k, e2, k3, k4⟩ | ⟨c, e2, k3, rfl⟩
        · refine ⟨H0, B0, fx, B1, e1, _, S1, k3, fun kv H2 B2 s2 S2 r2 => ?_⟩
          split at k4
          · rename_i ds h2
            split at k4
            · rename_i kk
              split at k4
              · rename_i j hj
                cases k4
                obtain ⟨p', vs', b1, b2, b3, b4, rb⟩ := S2.own h2
                rw [a1] at b1; cases b1
                cases r2
                refine .inl ⟨p, vs', kk, j, rfl, rfl, b2, by rw [rb.length]; exact hj, ?_⟩
                exact post _ _ B2 (s1.trans s2) (S2.wrSlot h2 a1 (Reps.set (r1.mono s2) j rb))
              · cases k4
            · cases k4
          · rename_i ps h2
            split at k4
            · rename_i q hq
              split at k4
              · rename_i hc
                cases k4
                obtain ⟨p', u', b1, b2, b3, b4, rb⟩ := S2.ob h2
                rw [a1] at b1; cases b1
                exact .inr ⟨B2, p, u', ps, k, d, q, rfl, S2.h.sub, b2, rb, r2, r1.mono s2, hq, hc.1, hc.2, fun u1 rc => post _ _ B2 (s1.trans s2) (S2.wrOb h2 a1 rc)⟩
              · cases k4
            · cases k4
          · cases k4
        · exact ⟨H0, B0, fx, B1, e1, _, S1, k3, fun H' B' a s' S' hm => post σ H' B' a (s1.trans s') S' hm⟩
      · cases k2
    · exact ⟨H0, B0, fx, B, env, _, S, k1, fun H' B' a s' S' hm => post σ H' B' a s' S' hm⟩

/-! ### loops -/
def forL (tg : TgF) (body : MS) : List PyData → Ev → Option So
  | [], e => some (.nx e)
  | d :: ds, e => match tg d e with
    | none => none
    | some e1 => match body e1 with
      | some (.nx e2) => forL tg body ds e2
      | some (.cnt e2) => forL tg body ds e2
      | some (.brk e2) => some (.nx e2)
      | r => r
def sFor (it : M (List PyData)) (tg : TgF) (body : MS) : MS := fun env => exK (it env) fun ds e => forL tg body ds e
theorem for_ok {tgE iter : Expr} {body : List Stmt} {pos : Pos} {it : M (List PyData)} {tg : TgF} {sl : List Nat} {f : MS} (hp : PassesOwn (model X.prog X.w) X.A X.env X.xe) (hc : X.calm = true) (hi : PI X tgE iter (tI X W (twE tgE) it)) (hg : PG X tgE (tG X (twE tgE) sl tg)) (hb : PSs X body (tS X W f))
    (hs : ∀ x, foldedSetIterable iter X.env x = pure x) : PS X (.For tgE iter body [] pos) (tS X W (sFor it tg f)) :=
  (ps_for hp hc hi hg hb hs).imp fun D σ H ⟨H0, B0, fx, B, env, r, S, hr, post⟩ => by
    unfold sFor at hr
    rcases exK_some hr with ⟨ds, e1, k1, k2⟩ | ⟨c, e1, k1, rfl⟩
    · refine ⟨H0, B0, fx, B, env, _, S, k1, fun J H1 B1 s1 S1 io => ?_⟩
      refine ⟨fun i m σ H => ∃ e B2, Sim X.K H0 B0 fx B2 H σ e ∧ Same B1 B2 ∧ m = ds.length - i ∧ i ≤ ds.length ∧ forL tg f (ds.drop i) e = some r, ⟨ds.length, e1, B1, S1, Same.refl B1, by simp, Nat.zero_le _, k2⟩, ?_⟩
      rintro i m σ2 H2 ⟨e, B2, S2, s2, rfl, hi, hf⟩
      obtain ⟨io1, io2⟩ := io _ _ _ _ _ _ _ i s2 S2
      by_cases hlt : i < ds.length
      · rw [List.drop_eq_getElem_cons hlt] at hf
        obtain ⟨go, yld⟩ := io2 ds[i] (List.getElem?_eq_getElem hlt)
        refine .inr ⟨go, fun σ' H' => ∃ e B2, Sim X.K H0 B0 fx B2 H' σ' e ∧ Same B1 B2 ∧ forL tg f (ds.drop (i + 1)) e = some r, fun σ' H' ⟨e, B3, S3, s3, c3⟩ => ⟨_, by omega, e, B3, S3, s3, rfl, hlt, c3⟩, fun x H3 y => ?_⟩
        obtain ⟨B3, s3, S3, r3⟩ := yld x H3 y
        unfold forL at hf
        split at hf
        · cases hf
        · rename_i ea ha
          refine ⟨H0, B0, fx, B3, _, ea, _, S3, r3, ha, fun σ' S4 _ => ?_⟩
          cases q : f ea with
          | none => rw [q] at hf; cases hf
          | some rb =>
            rw [q] at hf
            refine ⟨H0, B0, fx, B3, ea, rb, S4, q, ?_⟩
            cases rb with
            | nx e2 => exact fun σ5 H5 B5 s5 S5 => ⟨e2, B5, S5, (s2.trans s3).trans s5, hf⟩
            | cnt e2 => exact fun σ5 H5 B5 s5 S5 => ⟨e2, B5, S5, (s2.trans s3).trans s5, hf⟩
            | brk e2 => cases hf; exact fun σ5 H5 B5 s5 S5 => post σ5 H5 B5 (((s1.trans s2).trans s3).trans s5) S5
            | ret d => cases hf; exact fun v H5 B5 s5 S5 r => post v H5 B5 (((s1.trans s2).trans s3).trans s5) S5 r
            | exc c e2 => cases hf; exact fun σ5 H5 B5 a s5 S5 hm => post σ5 H5 B5 a (((s1.trans s2).trans s3).trans s5) S5 hm
      · have e0 : i = ds.length := by omega
        subst e0
        rw [List.drop_length] at hf
        cases hf
        exact .inl ⟨io1 (Nat.le_refl _), post σ2 H2 B2 (s1.trans s2) S2⟩
    · exact ⟨H0, B0, fx, B, env, _, S, k1, fun H' B' a s' S' hm => post σ H' B' a s' S' hm⟩
def whileL (t : M Bool) (body : MS) : Nat → Ev → Option So
  | 0, _ => none
  | n + 1, e => exK (t e) fun b e1 => if b = true then
      match body e1 with
      | some (.nx e2) => whileL t body n e2
      | some (.cnt e2) => whileL t body n e2
      | some (.brk e2) => some (.nx e2)
      | r => r
    else some (.nx e1)
theorem while_ok {c : Expr} {body : List Stmt} {pos : Pos} {t : M Bool} {f : MS} {fuel : Nat} (hp : PassesOwn (model X.prog X.w) X.A X.env X.xe) (hc : PT X c (tT X W t)) (hb : PSs X body (tS X W f)) : PS X (.While c body [] pos) (tS X W (whileL t f fuel)) :=
  (ps_while hp hc hb).imp fun D σ H ⟨H0, B0, fx, B, env, r, S, hr, post⟩ => by
    refine ⟨fun m σ H => ∃ e B2, Sim X.K H0 B0 fx B2 H σ e ∧ Same B B2 ∧ whileL t f m e = some r, ⟨fuel, env, B, S, Same.refl B, hr⟩, ?_⟩
    rintro m σ2 H2 ⟨e, B2, S2, s2, hw⟩
    cases m with
    | zero => cases hw
    | succ m =>
      unfold whileL at hw
      rcases exK_some hw with ⟨b, e1, k1, k2⟩ | ⟨c, e1, k1, rfl⟩
      · refine ⟨H0, B0, fx, B2, e, _, S2, k1, fun H3 B3 s3 S3 => ?_⟩
        by_cases hb : b = true
        · rw [if_pos hb] at k2 ⊢
          refine ⟨fun σ' H' => ∃ e B2, Sim X.K H0 B0 fx B2 H' σ' e ∧ Same B B2 ∧ whileL t f m e = some r, fun σ' H' h => ⟨m, Nat.lt_succ_self m, h⟩, ?_⟩
          cases q : f e1 with
          | none => rw [q] at k2; cases k2
          | some rb =>
            rw [q] at k2
            refine ⟨H0, B0, fx, B3, e1, rb, S3, q, ?_⟩
            cases rb with
            | nx e2 => exact fun σ5 H5 B5 s5 S5 => ⟨e2, B5, S5, (s2.trans s3).trans s5, k2⟩
            | cnt e2 => exact fun σ5 H5 B5 s5 S5 => ⟨e2, B5, S5, (s2.trans s3).trans s5, k2⟩
            | brk e2 => cases k2; exact fun σ5 H5 B5 s5 S5 => post σ5 H5 B5 ((s2.trans s3).trans s5) S5
            | ret d => cases k2; exact fun v H5 B5 s5 S5 r => post v H5 B5 ((s2.trans s3).trans s5) S5 r
            | exc c e2 => cases k2; exact fun σ5 H5 B5 a s5 S5 hm => post σ5 H5 B5 a ((s2.trans s3).trans s5) S5 hm
        · rw [if_neg hb] at k2 ⊢
          cases k2
          exact post σ2 H3 B3 (s2.trans s3) S3
      · exact ⟨H0, B0, fx, B2, e, _, S2, k1, fun H' B' a s' S' hm => post σ2 H' B' a (s2.trans s') S' hm⟩
/-- y = [.. for ..] -/
theorem setLc_ok {i : Nat} {y : PySem.Str} {py : Pos} {elt tgE iter : Expr} {ifs : List Expr} {scope : Scope} {own : List (PySem.Str × Nat)} {pos spos : Pos} {it : M (List PyData)} {tg : TgF} {sl : List Nat} {test : M Bool} {ef : M PyData} (hc : X.calm = true) (hN : X.N.Nodup) (hy : X.N[i]? = some y)
    (hyl : X.env.scope.names.lookup y = some .local) (hsw : swapsWith (.ListComp elt [⟨tgE, iter, ifs, 0⟩] scope pos) (some (.Name y py)) spos.line X.env = pure true) (hi : PI X tgE iter (tI X W (twE tgE) it)) (ok : BlkOk X.N X.env.scope scope own)
    (hg : ∀ s H C cl fp, PG (blkX X scope s H C cl fp) tgE (tG (blkX X scope s H C cl fp) (twE tgE) sl tg)) (hsl : ∀ s ∈ sl, s ∈ own.map (·.2)) (ht : ∀ s H C cl fp, PTs (blkX X scope s H C cl fp) ifs (tT (blkX X scope s H C cl fp) W0 test))
    (he : ∀ s H C cl fp, PE (blkX X scope s H C cl fp) elt (tD (blkX X scope s H C cl fp) W0 ef)) (hs : ∀ x, foldedSetIterable iter X.env x = pure x) :
    PS X (.Assign [.Name y py] (.ListComp elt [⟨tgE, iter, ifs, 0⟩] scope pos) spos) (tS X W (sSet i (fComp it tg test ef (own.map (·.2))))) :=
  (ps_setLc hc hN hy hyl hsw hi ok hg ht he hs).imp fun D σ H h => compRun (X := X) hsl σ H _ (setR_of h)

/-! ### raise, try -/
def sRaise (c : PySem.Str) : MS := fun env => some (.exc c env)
theorem raise_ok {x m : PySem.Str} {C : Addr} {j : Nat} {p p2 pos pos2 : Pos} {bmB : List Value} {Bn newId initId : String} (hc : X.calm = true) (tk : Takes X W) (F : ExcBaseFacts Bn newId initId bmB) (q : PySem.W.excIn X.K C bmB newId = true) (gC : X.mg x = some (.ref C)) (kC : PySem.W.keepIn X.K (.ref C) = true)
    (r : Raises X (.ref C)) (hg : Gl X x) (hdb : (x == ("__debug__" : PySem.Str)) = false) : PS X (.Raise (some (.Call (.Name x p) [.Constant (.str m) j p2] [] pos)) none pos2) (tS X W (sRaise x)) :=
  (ps_raise hc tk (pmk_own F q gC kC r hg hdb)).imp fun D σ H ⟨H0, B0, fx, B, env, rr, S, hr, post⟩ => by
    cases hr
    exact post σ H B C (Same.refl B) S gC
end
end PyI

namespace PyI
open PySem PySem.Spec L2 PyProof.Rows
/-! ## try: x = call, except C as e: y = isinstance(e, R) and isinstance(e, ValueError); if isinstance(e, (..)): return False -/
section
variable {X : Cx} {W : WX}
/-- isinstance(e, (C, ..)), e the exception that the suite holds -/
def rIsET (K : PySem.W.Frag) (D a : Addr) : List V → Hp → VK → Prop := fun xs H Q => ∃ (p : Addr) (cs : List V) (cvs : List Value) (b : Bool), xs = [.ref a, .ref p] ∧ H p = some (.tup cs) ∧ (∀ us, Vals cs us → us = cvs) ∧ PySem.W.kitAny K (.ref D) cvs = some b ∧ Q (.bl b) H
theorem call_isET {X : Cx} {a D : Addr} {oe : Obj} {pn : List (Addr × Obj)} (C : ExcC X.K D) (hz : Zc (.ref D) none oe) (hf : ∃ vs, oe.data = .fields vs) : CallR (X.suite a ((a, oe) :: pn)) (.builtin "isinstance") (rIsET X.K D a) := by
  intro pins s σ H xs us Q I r h
  obtain ⟨p, cs, cvs, b, rfl, hp, hcv, e, q⟩ := h
  cases r with
  | cons rx rr =>
    cases rr with
    | cons rt rr =>
      cases rr
      cases rx
      cases rt
      obtain ⟨_, its, r2, o, ho, hc, n, hd⟩ := I.hok _ _ hp
      have ec := hcv _ r2
      subst ec
      obtain ⟨hget, _⟩ := I.pin (a, oe) (List.mem_append.mpr (.inl List.mem_cons_self))
      obtain ⟨vs, hv⟩ := hf
      have J : PySem.W.InstAt s.heap a oe D none := by
        obtain ⟨oc, od, oda, osl⟩ := oe
        obtain ⟨h1, h2⟩ := hz
        dsimp only at h1 h2 hv
        subst h1 h2 hv
        exact ⟨hget, rfl, rfl, trivial⟩
      obtain ⟨oc, od, oda, osl⟩ := o
      dsimp only at hc hd
      subst hc hd
      exact PySem.W.kia_tup (PySem.W.handS_kitx_exc C.hg C.hk C.hs C.hd C.ha C.hn C.ht C.hm) I.kIn J ho e (fun z => nomatch z) fun tk => ⟨.bl b, H, I.kept (t' := tk) fun _ _ z => z, rfl, q⟩
/-- isinstance(e, C) -/
def tIsE (k : Nat) (a : Addr) (b : Bool) : TE := fun σ H Q => σ[k]? = some (some (.ref a)) ∧ Q (.bl b) H
theorem isE_glob {a D Ra : Addr} {oe : Obj} {pn : List (Addr × Obj)} {k : Nat} {en R : PySem.Str} {b : Bool} {p p1 p2 pos : Pos} (C : ExcC X.K D) (hz : Zc (.ref D) none oe) (hf : ∃ vs, oe.data = .fields vs)
    (hg : Gl X "isinstance") (hm : X.mg "isinstance" = none) (hN : X.N[k]? = some en) (hv : Vis X.env.scope en) (hd : (en == ("__debug__" : PySem.Str)) = false) (hcd : (en == ("__classdict__" : PySem.Str)) = false)
    (gR : Gl X R) (mR : X.mg R = some (.ref Ra)) (dR : (R == ("__debug__" : PySem.Str)) = false) (e : PySem.W.kitOne X.K (.ref D) (.ref Ra) = some b) :
    PE (X.suite a ((a, oe) :: pn)) (.Call (.Name "isinstance" p) [.Name en p1, .Name R p2] [] pos) (tIsE k a b) :=
  (pe_callB (X := X.suite a ((a, oe) :: pn)) (call_isE C hz hf) hg hm (by decide +kernel) (pa_cons (pe_var hN hv hd hcd) (pa_cons (pe_glob (v := .ref Ra) gR mR rfl dR) pa_nil)) (by decide) (by decide)).imp fun σ H Q ⟨h1, h2⟩ =>
    ⟨.ref a, h1, .ref Ra, .ref Ra, b, rfl, fun u r => r, e, h2⟩
theorem isE_bltn {a D : Addr} {oe : Obj} {pn : List (Addr × Obj)} {k : Nat} {en : PySem.Str} {b : Bool} {p p1 p2 pos : Pos} (C : ExcC X.K D) (hz : Zc (.ref D) none oe) (hf : ∃ vs, oe.data = .fields vs)
    (hg : Gl X "isinstance") (hm : X.mg "isinstance" = none) (hN : X.N[k]? = some en) (hv : Vis X.env.scope en) (hd : (en == ("__debug__" : PySem.Str)) = false) (hcd : (en == ("__classdict__" : PySem.Str)) = false)
    (gR : Gl X "ValueError") (mR : X.mg "ValueError" = none) (e : PySem.W.kitOne X.K (.ref D) (.type "ValueError") = some b) :
    PE (X.suite a ((a, oe) :: pn)) (.Call (.Name "isinstance" p) [.Name en p1, .Name "ValueError" p2] [] pos) (tIsE k a b) :=
  (pe_callB (X := X.suite a ((a, oe) :: pn)) (call_isE C hz hf) hg hm (by decide +kernel) (pa_cons (pe_var hN hv hd hcd) (pa_cons (pe_bltn gR mR (by decide +kernel : bootBuiltins "ValueError" = some (.type "ValueError")) (v := .ty "ValueError") rfl) pa_nil)) (by decide) (by decide)).imp fun σ H Q ⟨h1, h2⟩ =>
    ⟨.ref a, h1, .ty "ValueError", .type "ValueError", b, rfl, fun u r => r, e, h2⟩
/-- names of classes of the module -/
inductive Clss (X : Cx) : List Expr → List Addr → Prop
  | nil : Clss X [] []
  | cons {R : PySem.Str} {p : Pos} {es : List Expr} {c : Addr} {cs : List Addr} (g : Gl X R) (d : (R == ("__debug__" : PySem.Str)) = false) (m : X.mg R = some (.ref c)) (t : Clss X es cs) : Clss X (.Name R p :: es) (c :: cs)
theorem pa_clss {a : Addr} {pn : List (Addr × Obj)} : ∀ {es : List Expr} {cs : List Addr}, Clss X es cs → PA (X.suite a pn) es (fun _ H Q => Q (cs.map V.ref) H)
  | _, _, .nil => pa_nil
  | _, _, .cons g d m t => (pa_cons (pe_glob (X := X.suite a pn) (v := .ref _) g m rfl d) (pa_clss t)).imp fun σ H Q h => h
theorem vals_clss : ∀ {cs : List Addr} {us : List Value}, Vals (cs.map V.ref) us → us = cs.map Value.ref
  | [], _, .nil => rfl
  | c :: cs, _, .cons r t => by rw [vals_clss t]; cases r; rfl
theorem isE_tup {a D : Addr} {oe : Obj} {pn : List (Addr × Obj)} {k kk : Nat} {en : PySem.Str} {b : Bool} {es : List Expr} {cs : List Addr} {p p1 p2 pos : Pos} (C : ExcC X.K D) (hz : Zc (.ref D) none oe) (hf : ∃ vs, oe.data = .fields vs)
    (hg : Gl X "isinstance") (hm : X.mg "isinstance" = none) (hN : X.N[k]? = some en) (hv : Vis X.env.scope en) (hd : (en == ("__debug__" : PySem.Str)) = false) (hcd : (en == ("__classdict__" : PySem.Str)) = false)
    (hc : Clss X es cs) (e : PySem.W.kitAny X.K (.ref D) (cs.map Value.ref) = some b) (hl : cs.length ≤ sizeLine) :
    PE (X.suite a ((a, oe) :: pn)) (.Call (.Name "isinstance" p) [.Name en p1, .Tuple es kk p2] [] pos) (fun σ H Q => σ[k]? = some (some (.ref a)) ∧ ∀ q, H q = none → Q (.bl b) (upd H q (.tup (cs.map V.ref)))) :=
  (pe_callB (X := X.suite a ((a, oe) :: pn)) (call_isET C hz hf) hg hm (by decide +kernel) (pa_cons (pe_var hN hv hd hcd) (pa_cons (pe_tup (pa_clss hc)) pa_nil)) (by decide) (by decide)).imp fun σ H Q ⟨h1, h2⟩ =>
    ⟨.ref a, h1, by rw [List.length_map]; exact hl, fun q hq => ⟨q, cs.map V.ref, cs.map Value.ref, b, rfl, upd_same, fun us r => vals_clss r, e, h2 q hq⟩⟩
/-- the handler: y = isinstance(e, R) and isinstance(e, ValueError); if isinstance(e, (..)): return False -/
def tHnd (k j : Nat) (cs : List Addr) (a : Addr) (cls : Value) (D0 : Addr) : TS := fun D σ H => cls = .ref D0 ∧ σ[k]? = some (some (.ref a)) ∧ k ≠ j ∧ ∀ q, H q = none → D.nx (σ.set j (some (.bl true))) (upd H q (.tup (cs.map V.ref)))
theorem hnd_ok {a D Ra : Addr} {oe : Obj} {pn : List (Addr × Obj)} {k j kk k2 : Nat} {en R y : PySem.Str} {es : List Expr} {cs : List Addr} {p p1 p2 p3 p4 p5 p6 p7 p8 p9 q1 q2 q3 q4 q5 q6 q7 q8 : Pos} {cls : Value} {d : Option Addr} (C : ExcC X.K D) (hz : Zc cls d oe) (hf : ∃ vs, oe.data = .fields vs) (hd0 : d = none)
    (hNd : X.N.Nodup) (hj : X.N[j]? = some y) (hy : Loc X.env.scope y) (hfn : X.fn y = true ∨ X.env.scope.names.lookup y = some .local)
    (hg : Gl X "isinstance") (hm : X.mg "isinstance" = none) (hN : X.N[k]? = some en) (hv : Vis X.env.scope en) (hd : (en == ("__debug__" : PySem.Str)) = false) (hcd : (en == ("__classdict__" : PySem.Str)) = false)
    (gR : Gl X R) (mR : X.mg R = some (.ref Ra)) (dR : (R == ("__debug__" : PySem.Str)) = false) (gV : Gl X "ValueError") (mV : X.mg "ValueError" = none)
    (e1 : PySem.W.kitOne X.K (.ref D) (.ref Ra) = some true) (e2 : PySem.W.kitOne X.K (.ref D) (.type "ValueError") = some true)
    (hc : Clss X es cs) (e : PySem.W.kitAny X.K (.ref D) (cs.map Value.ref) = some false) (hl : cs.length ≤ sizeLine) :
    cls = .ref D → PSs (X.suite a ((a, oe) :: pn)) [.Assign [.Name y p] (.BoolOp .And [.Call (.Name "isinstance" p1) [.Name en p2, .Name R p3] [] p4, .Call (.Name "isinstance" p5) [.Name en p6, .Name "ValueError" p7] [] p8] p9) q1, .If (.Call (.Name "isinstance" q2) [.Name en q3, .Tuple es kk q4] [] q5) [.Return (some (.Constant (.bool false) k2 q6)) q7] [] q8] (tHnd k j cs a cls D) := by
  intro hcls
  subst hcls hd0
  have A : PE (X.suite a ((a, oe) :: pn)) (.BoolOp .And [.Call (.Name "isinstance" p1) [.Name en p2, .Name R p3] [] p4, .Call (.Name "isinstance" p5) [.Name en p6, .Name "ValueError" p7] [] p8] p9) (tAndV (tIsE k a true) (tIsE k a true)) :=
    pe_and (isE_glob C hz hf hg hm hN hv hd hcd gR mR dR e1) (pe_one (isE_bltn C hz hf hg hm hN hv hd hcd gV mV e2))
  have B : PS (X.suite a ((a, oe) :: pn)) (.Assign [.Name y p] _ q1) (tAsg (tAndV (tIsE k a true) (tIsE k a true)) (gName j)) := ps_set (X := X.suite a ((a, oe) :: pn)) hNd hj hy A rfl hfn
  have T : PT (X.suite a ((a, oe) :: pn)) (.Call (.Name "isinstance" q2) [.Name en q3, .Tuple es kk q4] [] q5) _ := pt_truth (isE_tup C hz hf hg hm hN hv hd hcd hc e hl) (fun _ => rfl)
  have I := ps_if (pos := q8) T (pss_cons (ps_ret (X := X.suite a ((a, oe) :: pn)) (pos := q7) (pe_bl (b := false) (j := k2) (pos := q6))) pss_nil) pss_nil
  refine (pss_cons B (pss_cons I pss_nil)).imp fun D' σ H ⟨_, h1, h2, h3⟩ => ?_
  refine ⟨h1, true, rfl, h1, ?_, fun q hq => ⟨false, rfl, h3 q hq⟩⟩
  show (σ.set j (some (V.bl true)))[k]? = _
  rw [List.getElem?_set_ne (Ne.symm h2)]
  exact h1
theorem pss_when {Y : Cx} {sts : List Stmt} {t : TS} {P : Prop} (h : P → PSs Y sts t) : PSs Y sts (fun D σ H => P ∧ t D σ H) := ⟨fun pins s σ H D I x => (h x.1).run pins s σ H D I x.2⟩
def sTryx (i j k : Nat) (c : PySem.Str) (f : M (PyData × Bool)) : MS := fun env =>
  match f env with
  | some (.ok r e) => setR i r e
  | some (.exc c' e) => if c' = c then match e[k]? with
      | some .und => some (.nx (e.set j (.val (.bool true))))
      | _ => none
    else none
  | none => none
theorem tryx_ok {D Ra : Addr} {i j k kk k2 : Nat} {x en R y c : PySem.Str} {call : Expr} {f : M (PyData × Bool)} {es : List Expr} {cs : List Addr} {p0 p p1 p2 p3 p4 p5 p6 p7 p8 p9 q0 q1 q2 q3 q4 q5 q6 q7 q8 np pos pos' : Pos} (C : ExcC X.K D)
    (hst : X.stack = X.env :: X.outer) (hfr : X.env.frame = some X.env.locals) (tk : Takes X W)
    (hNd : X.N.Nodup) (hi : X.N[i]? = some x) (hx : Loc X.env.scope x) (hfx : X.fn x = true) (hj : X.N[j]? = some y) (hy : Loc X.env.scope y) (hfn : X.fn y = true)
    (hk : X.N[k]? = some en) (hln : X.env.kindOf en = some .local) (hv : Vis X.env.scope en) (hd : (en == ("__debug__" : PySem.Str)) = false) (hcd : (en == ("__classdict__" : PySem.Str)) = false) (hkj : k ≠ j)
    (gc : Gl X c) (dc : (c == ("__debug__" : PySem.Str)) = false) (mc : X.mg c = some (.ref D)) (hyes : PySem.W.exmOne X.K (.ref D) (.ref D) = some true)
    (hg : Gl X "isinstance") (hm : X.mg "isinstance" = none)
    (gR : Gl X R) (mR : X.mg R = some (.ref Ra)) (dR : (R == ("__debug__" : PySem.Str)) = false) (gV : Gl X "ValueError") (mV : X.mg "ValueError" = none)
    (e1 : PySem.W.kitOne X.K (.ref D) (.ref Ra) = some true) (e2 : PySem.W.kitOne X.K (.ref D) (.type "ValueError") = some true)
    (hc : Clss X es cs) (e : PySem.W.kitAny X.K (.ref D) (cs.map Value.ref) = some false) (hl : cs.length ≤ sizeLine)
    (hcall : ∀ (W' : WX) (pn : List (Addr × Obj)) (xe : Value → Shared → Prop), Takes (X.tr pn xe) W' → PE (X.tr pn xe) call (tE X W' f))
    (hs : swapsWith call (some (.Name x p0)) q0.line X.env = pure false) :
    PS X (.Try [.Assign [.Name x p0] call q0] [.ExceptHandler (some (.Name c np)) (some en) [.Assign [.Name y p] (.BoolOp .And [.Call (.Name "isinstance" p1) [.Name en p2, .Name R p3] [] p4, .Call (.Name "isinstance" p5) [.Name en p6, .Name "ValueError" p7] [] p8] p9) q1, .If (.Call (.Name "isinstance" q2) [.Name en q3, .Tuple es kk q4] [] q5) [.Return (some (.Constant (.bool false) k2 q6)) q7] [] q8] pos'] [] [] pos)
      (tS X W (sTryx i j k c f)) :=
  (ps_try_as (c := .ref D) (tb := fun W' => tS X W' (sSeq (sSet i f) sSkip)) (ts := fun a cls d D' σ H => (cls = .ref D ∧ d = none) ∧ tHnd k j cs a cls D D' σ H) (Wout := W) hst hfr hNd hk hln ⟨gc, dc, .inl mc⟩ tk
    (fun W' pn xe tk' po => seq_ok (X := X.tr pn xe) (set_ok (X := X.tr pn xe) (W := W') hNd hi hx (.inl hfx) (hcall W' pn xe tk') hs) skip_ok)
    (fun a oe cls d pn hz hfl => pss_when fun h => hnd_ok C hz hfl h.2 hNd hj hy (.inl hfn) hg hm hk hv hd hcd gR mR dR gV mV e1 e2 hc e hl h.1)).imp fun D' σ H ⟨H0, B0, fx, B, env, r, S, hr, post⟩ => by
  unfold sTryx at hr
  refine ⟨H0, B0, fx, B, env, ?_⟩
  cases hf : f env with
  | none => rw [hf] at hr; cases hr
  | some o =>
    rw [hf] at hr
    cases o with
    | ok v e1 =>
      simp only at hr
      have key : ∃ e', r = .nx e' := by
        unfold setR at hr
        split at hr <;> first | (cases hr; exact ⟨_, rfl⟩) | cases hr
      obtain ⟨e', rfl⟩ := key
      refine ⟨.nx e', S, ?_, post⟩
      show seqK (exK (f env) (setR i)) sSkip = _
      rw [hf, exK_ok, hr]
      rfl
    | exc c' e1 =>
      simp only at hr
      split at hr
      · rename_i hcc
        subst hcc
        split at hr
        · rename_i hu
          cases hr
          refine ⟨.exc c' e1, S, ?_, ?_⟩
          · show seqK (exK (f env) (setR i)) sSkip = _
            rw [hf]
            rfl
          · intro σ' H' B' a' s' S' hm'
            rw [mc] at hm'
            cases hm'
            have hlen : k < σ'.length := by
              rw [S'.len]
              exact (List.getElem?_eq_some_iff.mp hu).1
            refine ⟨true, hyes, fun _ b hb => ⟨⟨rfl, rfl⟩, rfl, ?_, hkj, fun q hq => ?_⟩, fun z => by cases z⟩
            · rw [List.getElem?_set_self hlen]
            · have S2 := ((S'.setVal (i := j) (Rep.bl true)).wipe [k]).alloc (o := .tup (cs.map V.ref)) hq
              have eE : wipeE (e1.set j (.val (.bool true))) [k] = e1.set j (.val (.bool true)) := by
                show (e1.set j (.val (.bool true))).set k .und = _
                apply List.ext_getElem?
                intro m
                by_cases hmk : m = k
                · subst hmk
                  rw [List.getElem?_set_self (by rw [List.length_set, ← S'.len]; exact hlen), List.getElem?_set_ne (Ne.symm hkj), hu]
                · rw [List.getElem?_set_ne (Ne.symm hmk)]
              have eS : L2.wipe (σ'.set j (some (V.bl true))) [k] = ((σ'.set k (some (V.ref b))).set j (some (V.bl true))).set k none := by
                show (σ'.set j (some (V.bl true))).set k none = _
                rw [List.set_comm _ _ hkj, List.set_set]
              rw [eE, eS] at S2
              exact post _ _ _ (s'.trans (same_upd (none_of_same S'.h.sub hq))) S2
        · cases hr
      · cases hr
/-! ## try: .., except R as e: y = isinstance(e, (..)); y = y or isinstance(e, (..)); if isinstance(e, C) and isinstance(e, ValueError) and not y: return text; return text -/
def tHndV (k j : Nat) (cs cs' : List Addr) (msg : PySem.Str) (a : Addr) (cls : Value) (D0 : Addr) : TS := fun D σ H => cls = .ref D0 ∧ σ[k]? = some (some (.ref a)) ∧ k ≠ j ∧ j < σ.length ∧ ∀ q q', H q = none → (upd H q (.tup (cs.map V.ref))) q' = none → D.rt (.str msg) (upd (upd H q (.tup (cs.map V.ref))) q' (.tup (cs'.map V.ref)))
theorem hndv_ok {a D : Addr} {oe : Obj} {pn : List (Addr × Obj)} {k j kk kk' k2 k3 : Nat} {en c y msg msg2 : PySem.Str} {es es' : List Expr} {cs cs' : List Addr} {p1 p2 p3 p4 p5 p6 p7 p8 p9 p10 p11 p12 p13 p14 p15 p16 p17 p18 p19 p20 p21 p22 p23 p24 q1 q2 q3 q4 q5 q6 : Pos} {cls : Value} {d : Option Addr} (C : ExcC X.K D) (hz : Zc cls d oe) (hf : ∃ vs, oe.data = .fields vs) (hd0 : d = none)
    (hNd : X.N.Nodup) (hj : X.N[j]? = some y) (hy : Loc X.env.scope y) (hfn : X.fn y = true ∨ X.env.scope.names.lookup y = some .local) (hyv : Vis X.env.scope y) (hyd : (y == ("__debug__" : PySem.Str)) = false) (hyc : (y == ("__classdict__" : PySem.Str)) = false)
    (hg : Gl X "isinstance") (hm : X.mg "isinstance" = none) (hN : X.N[k]? = some en) (hv : Vis X.env.scope en) (hd : (en == ("__debug__" : PySem.Str)) = false) (hcd : (en == ("__classdict__" : PySem.Str)) = false)
    (gc : Gl X c) (mc : X.mg c = some (.ref D)) (dc : (c == ("__debug__" : PySem.Str)) = false) (gV : Gl X "ValueError") (mV : X.mg "ValueError" = none)
    (e1 : PySem.W.kitOne X.K (.ref D) (.ref D) = some true) (e2 : PySem.W.kitOne X.K (.ref D) (.type "ValueError") = some true)
    (hc : Clss X es cs) (e : PySem.W.kitAny X.K (.ref D) (cs.map Value.ref) = some false) (hl : cs.length ≤ sizeLine)
    (hc' : Clss X es' cs') (e' : PySem.W.kitAny X.K (.ref D) (cs'.map Value.ref) = some false) (hl' : cs'.length ≤ sizeLine) :
    cls = .ref D → PSs (X.suite a ((a, oe) :: pn)) [.Assign [.Name y p1] (.Call (.Name "isinstance" p2) [.Name en p3, .Tuple es kk p4] [] p5) q1,
      .Assign [.Name y p6] (.BoolOp .Or [.Name y p7, .Call (.Name "isinstance" p8) [.Name en p9, .Tuple es' kk' p10] [] p11] p12) q2,
      .If (.BoolOp .And [.Call (.Name "isinstance" p13) [.Name en p14, .Name c p15] [] p16, .Call (.Name "isinstance" p17) [.Name en p18, .Name "ValueError" p19] [] p20, .UnaryOp .Not (.Name y p21) p22] p23) [.Return (some (.Constant (.str msg) k2 p24)) q3] [] q4,
      .Return (some (.Constant (.str msg2) k3 q5)) q6] (tHndV k j cs cs' msg a cls D) := by
  intro hcls
  subst hcls hd0
  have A1 := isE_tup (a := a) (kk := kk) (p := p2) (p1 := p3) (p2 := p4) (pos := p5) C hz hf hg hm hN hv hd hcd hc e hl (pn := pn)
  have S1 : PS (X.suite a ((a, oe) :: pn)) (.Assign [.Name y p1] _ q1) _ := ps_set (X := X.suite a ((a, oe) :: pn)) hNd hj hy A1 rfl hfn
  have A2 : PE (X.suite a ((a, oe) :: pn)) (.BoolOp .Or [.Name y p7, .Call (.Name "isinstance" p8) [.Name en p9, .Tuple es' kk' p10] [] p11] p12) _ :=
    pe_or (pe_var (X := X.suite a ((a, oe) :: pn)) hj hyv hyd hyc) (pe_one (isE_tup C hz hf hg hm hN hv hd hcd hc' e' hl'))
  have S2 : PS (X.suite a ((a, oe) :: pn)) (.Assign [.Name y p6] _ q2) _ := ps_set (X := X.suite a ((a, oe) :: pn)) hNd hj hy A2 rfl hfn
  have T3 : PT (X.suite a ((a, oe) :: pn)) (.BoolOp .And [.Call (.Name "isinstance" p13) [.Name en p14, .Name c p15] [] p16, .Call (.Name "isinstance" p17) [.Name en p18, .Name "ValueError" p19] [] p20, .UnaryOp .Not (.Name y p21) p22] p23) _ :=
    (pw_and (pt_truth (isE_glob C hz hf hg hm hN hv hd hcd gc mc dc e1) (fun _ => rfl)) (pw_and (pt_truth (isE_bltn C hz hf hg hm hN hv hd hcd gV mV e2) (fun _ => rfl)) (pw_and1 (pt_not (pt_truth (pe_var (X := X.suite a ((a, oe) :: pn)) hj hyv hyd hyc) (fun _ => rfl)))))).pt
  have S3 := ps_if (pos := q4) T3 (pss_cons (ps_ret (X := X.suite a ((a, oe) :: pn)) (pos := q3) (pe_str (x := msg) (j := k2) (pos := p24))) pss_nil) pss_nil
  have S4 := ps_ret (X := X.suite a ((a, oe) :: pn)) (pos := q6) (pe_str (x := msg2) (j := k3) (pos := q5))
  refine (pss_cons S1 (pss_cons S2 (pss_cons S3 (pss_cons S4 pss_nil)))).imp fun D' σ H ⟨_, h1, h2, h3, h4⟩ => ?_
  have a1 : ∀ b, (σ.set j (some (V.bl b)))[k]? = some (some (.ref a)) := fun b => by
    rw [List.getElem?_set_ne (Ne.symm h2)]
    exact h1
  have a2 : ∀ b c, ((σ.set j (some (V.bl b))).set j (some (V.bl c)))[k]? = some (some (.ref a)) := fun b c => by
    rw [List.getElem?_set_ne (Ne.symm h2)]
    exact a1 b
  refine ⟨h1, fun q hq => ?_⟩
  refine ⟨.bl false, by rw [List.getElem?_set_self h3], false, rfl, ?_⟩
  show _ ∧ _
  refine ⟨a1 _, fun q' hq' => ?_⟩
  refine ⟨a2 _ _, true, rfl, ?_⟩
  show _ ∧ _
  refine ⟨a2 _ _, true, rfl, ?_⟩
  refine ⟨.bl false, by rw [List.getElem?_set_self (by rw [List.length_set]; exact h3)], false, rfl, ?_⟩
  exact h4 q q' hq hq'
def sTryv (k j : Nat) (c msg : PySem.Str) (f : MS) : MS := fun env =>
  match f env with
  | some (.exc c' e) => if c' = c then match e[k]?, e[j]? with
      | some _, some _ => some (.ret (.str msg))
      | _, _ => none
    else none
  | r => r
theorem tryv_ok {D Ra : Addr} {j k kk kk' k2 k3 : Nat} {en R y c msg msg2 : PySem.Str} {body : List Stmt} {f : MS} {es es' : List Expr} {cs cs' : List Addr} {p1 p2 p3 p4 p5 p6 p7 p8 p9 p10 p11 p12 p13 p14 p15 p16 p17 p18 p19 p20 p21 p22 p23 p24 q1 q2 q3 q4 q5 q6 np pos pos' : Pos} (C : ExcC X.K D)
    (hst : X.stack = X.env :: X.outer) (hfr : X.env.frame = some X.env.locals) (tk : Takes X W)
    (hNd : X.N.Nodup) (hj : X.N[j]? = some y) (hy : Loc X.env.scope y) (hfn : X.fn y = true) (hyv : Vis X.env.scope y) (hyd : (y == ("__debug__" : PySem.Str)) = false) (hyc : (y == ("__classdict__" : PySem.Str)) = false)
    (hk : X.N[k]? = some en) (hln : X.env.kindOf en = some .local) (hv : Vis X.env.scope en) (hd : (en == ("__debug__" : PySem.Str)) = false) (hcd : (en == ("__classdict__" : PySem.Str)) = false) (hkj : k ≠ j)
    (gc : Gl X c) (dc : (c == ("__debug__" : PySem.Str)) = false) (mc : X.mg c = some (.ref D))
    (hg : Gl X "isinstance") (hm : X.mg "isinstance" = none)
    (gR : Gl X R) (mR : X.mg R = some (.ref Ra)) (dR : (R == ("__debug__" : PySem.Str)) = false) (hyes : PySem.W.exmOne X.K (.ref D) (.ref Ra) = some true) (gV : Gl X "ValueError") (mV : X.mg "ValueError" = none)
    (e1 : PySem.W.kitOne X.K (.ref D) (.ref D) = some true) (e2 : PySem.W.kitOne X.K (.ref D) (.type "ValueError") = some true)
    (hc : Clss X es cs) (e : PySem.W.kitAny X.K (.ref D) (cs.map Value.ref) = some false) (hl : cs.length ≤ sizeLine)
    (hc' : Clss X es' cs') (e' : PySem.W.kitAny X.K (.ref D) (cs'.map Value.ref) = some false) (hl' : cs'.length ≤ sizeLine)
    (hbody : ∀ (W' : WX) (pn : List (Addr × Obj)) (xe : Value → Shared → Prop), Takes (X.tr pn xe) W' → PassesOwn (model X.prog X.w) X.A X.env xe → PSs (X.tr pn xe) body (tS X W' f)) :
    PS X (.Try body [.ExceptHandler (some (.Name R np)) (some en) [.Assign [.Name y p1] (.Call (.Name "isinstance" p2) [.Name en p3, .Tuple es kk p4] [] p5) q1,
      .Assign [.Name y p6] (.BoolOp .Or [.Name y p7, .Call (.Name "isinstance" p8) [.Name en p9, .Tuple es' kk' p10] [] p11] p12) q2,
      .If (.BoolOp .And [.Call (.Name "isinstance" p13) [.Name en p14, .Name c p15] [] p16, .Call (.Name "isinstance" p17) [.Name en p18, .Name "ValueError" p19] [] p20, .UnaryOp .Not (.Name y p21) p22] p23) [.Return (some (.Constant (.str msg) k2 p24)) q3] [] q4,
      .Return (some (.Constant (.str msg2) k3 q5)) q6] pos'] [] [] pos)
      (tS X W (sTryv k j c msg f)) :=
  (ps_try_as (c := .ref Ra) (tb := fun W' => tS X W' f) (ts := fun a cls d D' σ H => (cls = .ref D ∧ d = none) ∧ tHndV k j cs cs' msg a cls D D' σ H) (Wout := W) hst hfr hNd hk hln ⟨gR, dR, .inl mR⟩ tk
    (fun W' pn xe tk' po => hbody W' pn xe tk' po)
    (fun a oe cls d pn hz hfl => pss_when fun h => hndv_ok C hz hfl h.2 hNd hj hy (.inl hfn) hyv hyd hyc hg hm hk hv hd hcd gc mc dc gV mV e1 e2 hc e hl hc' e' hl' h.1)).imp fun D' σ H ⟨H0, B0, fx, B, env, r, S, hr, post⟩ => by
  unfold sTryv at hr
  cases hf : f env with
  | none => rw [hf] at hr; cases hr
  | some o =>
    rw [hf] at hr
    cases o with
    | nx e1 => cases hr; exact ⟨H0, B0, fx, B, env, _, S, hf, post⟩
    | ret e1 => cases hr; exact ⟨H0, B0, fx, B, env, _, S, hf, post⟩
    | brk e1 => cases hr; exact ⟨H0, B0, fx, B, env, _, S, hf, post⟩
    | cnt e1 => cases hr; exact ⟨H0, B0, fx, B, env, _, S, hf, post⟩
    | exc c' e1 =>
      simp only at hr
      split at hr
      · rename_i hcc
        subst hcc
        split at hr
        · rename_i hu hw
          cases hr
          refine ⟨H0, B0, fx, B, env, .exc c' e1, S, hf, ?_⟩
          intro σ' H' B' a' s' S' hm'
          rw [mc] at hm'
          cases hm'
          have hlk : k < σ'.length := by
            rw [S'.len]
            exact (List.getElem?_eq_some_iff.mp hu).1
          have hlj : j < σ'.length := by
            rw [S'.len]
            exact (List.getElem?_eq_some_iff.mp hw).1
          refine ⟨true, hyes, fun _ b hb => ⟨⟨rfl, rfl⟩, rfl, ?_, hkj, by rw [List.length_set]; exact hlj, fun q q' hq hq' => ?_⟩, fun z => by cases z⟩
          · rw [List.getElem?_set_self hlk]
          · have n1 := none_of_same S'.h.sub hq
            have S2 := S'.h.alloc (o := .tup (cs.map V.ref)) hq
            have S3 := S2.alloc (o := .tup (cs'.map V.ref)) hq'
            exact post _ _ _ (s'.trans ((same_upd n1).trans (same_upd (none_of_same S2.sub hq')))) S3 (.str msg)
        · cases hr
      · cases hr
end
end PyI

/-! # D.get(text, number) of a dict of the module: texts to ints -/
namespace PyI
open PySem PySem.Spec L2 PyProof.Rows
def lookI : List (PyData × PyData) → PySem.Str → Option Int
  | [], _ => none
  | (.str x, .int i) :: r, z => if x = z then some i else lookI r z
  | _ :: r, z => lookI r z
def nsSays (K : PySem.W.Frag) (a : Addr) (z : PySem.Str) : Option Int → Prop
  | some i => ∃ t, PySem.W.nsIn K a z = some (some (.int i t))
  | none => PySem.W.nsIn K a z = some none
def DicOk (X : Cx) (x : PySem.Str) (kvs : List (PyData × PyData)) : Prop := ∃ a es n, KDict X.K X.w a es n ∧ X.mg x = some (.ref a) ∧ ∀ z, nsSays X.K a z (lookI kvs z)
def fKget (kvs : List (PyData × PyData)) (f : M PyData) (k : Int) : M PyData := fun env => bnd (f env) fun d e => match d with
  | .str z => some (.ok (.int ((lookI kvs z).getD k)) e)
  | _ => none
theorem kget_ok {X : Cx} {W : WX} {x : PySem.Str} {e : Expr} {p ap pos p2 : Pos} {f : M PyData} {kvs : List (PyData × PyData)} {k : Int} {kk : Nat} (hg : Gl X x) (hd : (x == ("__debug__" : PySem.Str)) = false) (h : DicOk X x kvs)
    (he : PE X e (tD X W f)) (hs : starEach [e, .Constant (.int k) kk p2] X.env = [(false, eval e X.env), (false, eval (.Constant (.int k) kk p2) X.env)]) (hl : (ap.endLine == pos.line) = true) :
    PE X (.Call (.Attribute (.Name x p) "get" ap) [e, .Constant (.int k) kk p2] [] pos) (tD X W (fKget kvs f k)) := by
  obtain ⟨a, es, n, D, hm, hns⟩ := h
  have hn := pe_glob (pos := p) (v := V.ref a) hg hm rfl hd
  have hk := pe_int (X := X) (i := k) (j := kk) (pos := p2)
  refine ⟨fun pins s σ H Q I h0 => ?_⟩
  obtain ⟨H0, B0, fx, B, env, rr, S, hr, post⟩ := h0
  have key : tD X W f σ H fun y H2 => ∃ z, y = .str z ∧ Q (.int ((lookI kvs z).getD k)) H2 := by
    rcases bnd_some hr with ⟨d, e1, k1, k2⟩ | ⟨c, e1, k1, rfl⟩
    · refine ⟨H0, B0, fx, B, env, _, S, k1, fun v H1 B1 s1 S1 r1 => ?_⟩
      cases d with
      | str z =>
        cases k2
        exact ⟨z, by cases r1; rfl, post _ H1 B1 s1 S1 (.int _)⟩
      | _ => cases k2
    · exact ⟨H0, B0, fx, B, env, _, S, k1, post⟩
  refine wpAny_Call_method2_late rfl hl (by rw [hs]; rfl) (thn (hn.run pins s σ H (fun v H' => v = .ref a ∧ H' = H) I ⟨rfl, rfl⟩) fun v s1 ⟨xv, H1, I1, r1, e1, e2⟩ => ?_)
  subst e1 e2
  obtain rfl : v = Value.ref a := r1
  refine ⟨"dict", "dict.get", PySem.F.plainAttrs_dict, PySem.F.slot_dict_get, PySem.F.type_dict_get, kd_type D I1, fun b eb => ?_, ?_⟩
  · cases eb
    exact ⟨_, I1.kIn _ _ D.at_, rfl⟩
  · refine Calls.callWith_builtin rfl (Calls.evalArgs_plain (Calls.spliced_cons (thn (he.run pins s1 σ H1 _ I1 key) fun iv s2 ⟨y, H2, I2, ry, z, ez, q2⟩ =>
      Calls.spliced_cons (thn (hk.run pins s2 σ H2 (fun w H' => w = .int k ∧ H' = H2) I2 ⟨rfl, rfl⟩) fun fv s3 ⟨z3, H3, I3, r3, e3, e4⟩ => Calls.spliced_nil ?_))))
    subst e3 e4 ez
    obtain ⟨t, rfl⟩ := ry
    have hz := hns z
    have hf : ∃ r, PySem.W.nsIn X.K a z = some r ∧ RelV (.int ((lookI kvs z).getD k)) (r.getD fv) := by
      cases hq : lookI kvs z with
      | none =>
        rw [hq] at hz
        exact ⟨none, hz, r3⟩
      | some i =>
        rw [hq] at hz
        obtain ⟨t', hz⟩ := hz
        exact ⟨_, hz, t', rfl⟩
    obtain ⟨r, hr1, hr2⟩ := hf
    have hfind := PySem.W.find_K D.at_ hr1
    refine call_meetsIn PySem.F.slot_dict_get (kd_type D I3) PySem.F.entry_dict_get (PySem.F.args_dict_get_3 _ _ _) (meets_dict_get_default (PySem.strKind X.prog X.w) a (PySem.strKind_is X.prog X.w z t) D.low fv) ⟨_, PySem.W.mapOf_K (prog := X.prog) (w := X.w) I3.kIn D.at_ D.lit, ?_⟩
    rw [hfind]
    exact ⟨.int ((lookI kvs z).getD k), H3, I3.tok _, hr2, q2⟩
/-- the entries of a written dict -/
def EntsAre (P : Params) : List DictEntry → List (PySem.Str × Int) → Prop
  | [], [] => True
  | e :: r, p :: q => (∃ t, e.key = .str p.1 t) ∧ (∃ t, e.val = .int p.2 t) ∧ e.hash = PyData.keyHash P p.1 ∧ EntsAre P r q
  | _, _ => False
def dicD (ks : List (PySem.Str × Int)) : List (PyData × PyData) := ks.map fun p => (.str p.1, .int p.2)
theorem ents_lit {P : Params} : ∀ {l : List DictEntry} {ks : List (PySem.Str × Int)}, EntsAre P l ks → PySem.W.KeysLit P l
  | [], _, _ => trivial
  | _ :: _, [], h => h.elim
  | _ :: _, _ :: _, ⟨⟨t, h1⟩, _, h3, h4⟩ => ⟨⟨_, t, h1, h3⟩, ents_lit h4⟩
theorem ents_ref {P : Params} : ∀ {l : List DictEntry} {ks : List (PySem.Str × Int)}, EntsAre P l ks → (l.any fun e => e.refKey) = false
  | [], _, _ => rfl
  | _ :: _, [], h => h.elim
  | e :: r, _ :: _, ⟨⟨t, h1⟩, _, _, h4⟩ => by
    rw [List.any_cons, ents_ref h4, Bool.or_false]
    obtain ⟨eh, ek, ev⟩ := e
    dsimp only at h1
    subst h1
    rfl
theorem ents_find {P : Params} (z : PySem.Str) : ∀ {l : List DictEntry} {ks : List (PySem.Str × Int)}, EntsAre P l ks → match lookI (dicD ks) z with
    | some i => ∃ e t, l.find? (fun e => e.key.isStr z) = some e ∧ e.val = .int i t
    | none => l.find? (fun e => e.key.isStr z) = none
  | [], [], _ => rfl
  | [], _ :: _, h => h.elim
  | _ :: _, [], h => h.elim
  | e :: r, p :: q, ⟨⟨t, h1⟩, ⟨u, h2⟩, _, h4⟩ => by
    have ih := ents_find z h4
    have e0 : lookI (dicD (p :: q)) z = if p.1 = z then some p.2 else lookI (dicD q) z := rfl
    rw [e0]
    by_cases c : p.1 = z
    · rw [if_pos c]
      refine ⟨e, u, ?_, h2⟩
      have : e.key.isStr z = true := by
        rw [h1, c]
        show (z == z) = true
        exact beq_self_eq_true z
      rw [List.find?_cons, this]
    · rw [if_neg c]
      have : e.key.isStr z = false := by
        rw [h1]
        show (p.1 == z) = false
        exact beq_eq_false_iff_ne.mpr c
      rw [List.find?_cons, this]
      exact ih
/-- a written dict of the module -/
def DicLink (w : World) (K : PySem.W.Frag) (mg : PySem.Str → Option Value) (x : PySem.Str) (kvs : List (PyData × PyData)) : Prop := ∃ a es n, KDict K w a es n ∧ mg x = some (.ref a) ∧ ∀ z, nsSays K a z (lookI kvs z)
theorem dic_link {w : World} {K : PySem.W.Frag} {mg : PySem.Str → Option Value} {x : PySem.Str} {a : Addr} {es : Array DictEntry} {n : Nat} {ks : List (PySem.Str × Int)} (hm : mg x = some (.ref a)) (hl : K.lookup a = some ⟨.type "dict", none, .dict es n, #[]⟩)
    (he : EntsAre w.params es.toList ks) (low : (a == sysModules) = false) : DicLink w K mg x (dicD ks) := by
  refine ⟨a, es, n, ⟨hl, ents_lit he, low⟩, hm, fun z => ?_⟩
  have f := ents_find z he
  have e0 : PySem.W.nsIn K a z = match es.toList.find? (fun e => e.key.isStr z) with
      | some e => some (some e.val)
      | none => if (es.toList.any fun e => e.refKey) = true then none else some none := by
    unfold PySem.W.nsIn
    rw [hl]
    rfl
  cases hq : lookI (dicD ks) z with
  | none =>
    rw [hq] at f
    show PySem.W.nsIn K a z = some none
    rw [e0, show es.toList.find? (fun e => e.key.isStr z) = none from f, ents_ref he]
    rfl
  | some i =>
    rw [hq] at f
    obtain ⟨e, t, f1, f2⟩ := f
    refine ⟨t, ?_⟩
    rw [e0, f1]
    show some (some e.val) = _
    rw [f2]
end PyI

namespace PyI
open PySem PySem.Spec L2 PyProof.Rows
/-! # sorted(set(xs)), xs a list of ints -/
section
variable {P : Program} {w : World} {A : Around} {E : Value → Shared → Prop} {s : Shared}
abbrev emptySet (w : World) : Obj := { cls := .type "set", dict := none, data := .set #[] 0 (.fresh 0 0 (!w.params.followText "set-order")) }
def NewSet (w : World) (s : Shared) (S : Addr) (ns : List Int) (s' : Shared) : Prop :=
  ∃ h' tk c, s' = { s with heap := h', toks := tk } ∧ SetR w h' S (fun j => decide (j ∈ ns)) c ∧ c ≤ ns.length ∧ ∀ b o, b ≠ S → s.heap.get? b = some o → h'.get? b = some o
/-- an empty set takes the ints of a list in -/
theorem fill_from_list {S l : Addr} {items : Array Value} {ns : List Int} (hh : A.handled = none) (hS : s.heap.get? S = some (emptySet w)) (hl : s.heap.IsList l items) (ne : S ≠ l) (hi : IntsAre items.toList ns) (hb : ns.length + 1 < scanBound) :
    codeAny (model P w) A (.call (.builtin "set.__init__") ⟨[.ref S, .ref l], []⟩) (wants (fun r s' => r = .none ∧ NewSet w s S ns s') E) s := by
  have len : items.size = ns.length := by
    rw [← Array.length_toList]
    exact IntsAre.length hi
  refine codeAny_call_builtin F.called_set.init.plain F.entry_set_init (check_set_init_1 ⟨_, hS, rfl⟩ ?_)
  have hl2 := hl
  obtain ⟨⟨lc, ld, ldat, lsl⟩, e1, e2, k, e3⟩ := hl2
  dsimp only at e2 e3
  subst e2 e3
  have q1 := F.sub_list_set
  have q2 := F.sub_list_frozenset
  have q3 : (Value.type "list" == Value.type "dict") = false := by decide
  unfold Builtin.«set.__init__» noKeywords Builtin.Frozenset.updateFrom
  generalize hp : pyIter = it
  wp_walk
  subst hp
  refine wpAny_pyIter_list hl (wpAny_bind (wpAny_runValue ?_))
  have bS : S < s.heap.objs.size := Heap.lt_size hS
  have bl : l < s.heap.objs.size := Heap.lt_size e1
  have far : ∀ b, b < s.heap.objs.size → b ≠ s.heap.objs.size := fun b h => Nat.ne_of_lt h
  have kind : ∀ (i : Nat) (v : Value), items[i]? = some v → ∃ z t, ns[i]? = some z ∧ v = .int z t := fun i v hv => by
    obtain ⟨t, e⟩ := IntsAre.int_at hi i v (by rw [Array.getElem?_toList]; exact hv)
    have lt : i < ns.length := by rw [← len]; exact (Array.getElem?_eq_some_iff.mp hv).1
    have g : ns[i]? = some ns[i] := List.getElem?_eq_getElem lt
    exact ⟨_, t, g, by rw [e, List.getD_eq_getElem?_getD, g]; rfl⟩
  refine set_update_ints ((Walks.list (by simp [hh]) _ l (far l bl) items).toS) S (fun z => ?_) ns len hb kind (items.size - 0) 0 _ (by omega) (Nat.zero_le _) ⟨⟨_, Heap.get?_push_size _ rfl, rfl, rfl⟩, hl.push _⟩ ⟨0, Nat.le_refl 0, setR_new_at (Heap.get?_push_of_some _ hS)⟩ ?_
  · rcases List.mem_cons.mp z with z | z
    · exact far S bS z
    · exact ne (List.mem_singleton.mp z)
  · intro s1 c mv le R
    rw [len] at le
    obtain ⟨h1, g1, d1, t1, o1⟩ := s1
    obtain rfl : g1 = s.gens := mv.gens
    obtain rfl : d1 = s.drawn := mv.drawn
    obtain rfl : o1 = s.os := mv.os
    show wpAny _ _ _ _ _ _
    refine wpAny_pure ?_
    show wpAny _ _ (ret Value.none) _ _ _
    refine wpAny_pure ⟨rfl, h1, t1, c, rfl, R, le, fun b o hb e => mv.heap b o (fun z => ?_) (Heap.get?_push_of_some _ e)⟩
    rcases List.mem_cons.mp z with z | z
    · exact hb z
    · exact far b (Heap.lt_size e) (List.mem_singleton.mp z)
/-- set(xs), xs a list of ints -/
theorem make_set {l : Addr} {items : Array Value} {ns : List Int} {Q : Value → Shared → Prop} (hh : A.handled = none) (hl : s.heap.IsList l items) (hi : IntsAre items.toList ns) (hb : ns.length + 1 < scanBound)
    (h : ∀ s', NewSet w s s.heap.objs.size ns s' → Q (.ref s.heap.objs.size) s') : wpAny (model P w) A (call (.type "set") [.ref l]) Q E s := by
  have bl : l < s.heap.objs.size := by
    obtain ⟨o, e, _⟩ := hl
    exact Heap.lt_size e
  let s0 : Shared := { s with heap := s.heap.push (emptySet w) }
  have tree : codeAny (model P w) A (.call (.type "set") ⟨[.ref l], []⟩) (wants Q E) s := by
    refine codeAny_of_tree ?_
    show wpAny _ _ (callAny (.type "set") _) _ _ _
    refine wpAny_pure (And.intro (Code.quiet_builtin _ (by decide +kernel)) (codeAny_builtin F.entry_type_call ?_))
    rw [Around.under_plain (weight_type_call_type "set" [.ref l] []) rfl]
    obtain ⟨c, tl, m1⟩ := F.called_set.mro
    have m2 := F.called_set.made
    have m3 := F.called_set.sub
    have m4 := F.called_set.notType
    have m5 := F.called_set.canCreate
    have m6 := F.typeCall_set_1 (.ref l)
    repeat (any_goals (first | assumption | wp_step))
    refine codeAny_mono (code_set_led1 (.ref l) (E := E) (Q₁ := fun v s' => v = .ref s.heap.objs.size ∧ s' = s0) ⟨rfl, rfl⟩) fun r s1 hr => ?_
    match r, hr with
    | .ok (.ret v), hr =>
      obtain ⟨rfl, rfl⟩ := hr
      have here : s0.heap.get? s.heap.objs.size = some (emptySet w) := Heap.get?_push_size _ rfl
      have ty : Shared.TypeIs s0 (.ref s.heap.objs.size) "set" := ⟨_, here, rfl⟩
      have n1 := F.called_set.init.lookup
      have n2 := F.called_set.init.bind (.ref s.heap.objs.size)
      repeat (any_goals (first | assumption | wp_step))
      refine codeAny_mono (fill_from_list (s := s0) (A := A.in1) (E := E) (by simp [hh]) here (hl.push _) (Nat.ne_of_gt bl) hi hb) fun r2 s2 h2 => ?_
      match r2, h2 with
      | .ok (.ret u), h2 =>
        obtain ⟨rfl, h', tk, c, rfl, R, le, kept⟩ := h2
        repeat (any_goals (first | assumption | wp_step))
        exact h _ ⟨h', tk, c, rfl, R, le, fun b o nb e => kept b o nb (Heap.get?_push_of_some _ e)⟩
      | .error e, h2 => exact h2
    | .error e, hr => exact hr
  exact wpAny_call tree
end
/-- how many different ints -/
def diff : List Int → List Int
  | [] => []
  | a :: r => if a ∈ r then diff r else a :: diff r
theorem mem_diff {k : Int} : ∀ {ns : List Int}, k ∈ diff ns ↔ k ∈ ns
  | [] => Iff.rfl
  | a :: r => by
    unfold diff
    split
    · rename_i h
      rw [mem_diff, List.mem_cons]
      exact ⟨.inr, fun z => z.elim (fun e => by rw [e]; exact h) id⟩
    · rw [List.mem_cons, List.mem_cons, mem_diff]
theorem nodup_diff : ∀ ns : List Int, (diff ns).Nodup
  | [] => List.nodup_nil
  | a :: r => by
    unfold diff
    split
    · exact nodup_diff r
    · rename_i h
      exact List.nodup_cons.mpr ⟨fun z => h (mem_diff.mp z), nodup_diff r⟩
theorem len_of_sub : ∀ l D : List Int, l.Nodup → (∀ x ∈ l, x ∈ D) → l.length ≤ D.length
  | [], D, _, _ => Nat.zero_le _
  | a :: l, D, h, k => by
    obtain ⟨h1, h2⟩ := List.nodup_cons.mp h
    have ha : a ∈ D := k a List.mem_cons_self
    have ih := len_of_sub l (D.erase a) h2 fun x hx => (List.mem_erase_of_ne fun e => h1 (by rw [← e]; exact hx)).mpr (k x (List.mem_cons_of_mem _ hx))
    have := List.length_erase_of_mem ha
    have := List.length_pos_of_mem ha
    rw [List.length_cons]
    omega
theorem setR_few {w : World} {h : Heap} {a : Addr} {ns : List Int} {c : Nat} (R : SetR w h a (fun j => decide (j ∈ ns)) c) : c ≤ (diff ns).length := by
  obtain ⟨o, es, ep, t, ho, hx, hd, g, nd, hm, hb, hf, hn, _⟩ := R
  have sub : ∀ k ∈ es.toList.map L2.keyOf, k ∈ diff ns := fun k hk => mem_diff.mpr (by simpa using (hm k).mpr hk)
  have := len_of_sub _ _ nd sub
  rw [List.length_map, Array.length_toList, hn] at this
  exact this
section
variable {X : Cx}
/-- the object that set(xs) makes -/
def rSetOf (w : World) (K : PySem.W.Frag) : List V → Hp → VK → Prop := fun vs H Q => ∃ (p : Addr) (ns : List Int), vs = [.ref p] ∧ SqL K H p (ns.map V.int) ∧ ns.length ≤ 1000 ∧ ∀ q c, H q = none → c ≤ (diff ns).length → Q (.ref q) (upd H q (SetO w q (fun j => decide (j ∈ ns)) c))
theorem cr_setOf (hc : X.calm = true) : CallR X (.type "set") (rSetOf X.w X.K) := by
  intro pins s σ H vs us Q I r h
  obtain ⟨p, ns, rfl, hs, hl, q⟩ := h
  obtain ⟨its, rv, pl, hz⟩ := I.list hs
  rw [Vals.ref1 r]
  refine make_set (I.ok.hd hc) pl.isList (ints_of_vals rv) (by unfold scanBound; omega) fun s' N => ?_
  obtain ⟨h', tk, c, rfl, R, le, kept⟩ := N
  have fresh : H s.heap.objs.size = none := I.hok.fresh (Nat.le_refl _)
  exact ⟨.ref _, _, I.laid (t' := tk) (fun b o e => kept b o (Nat.ne_of_lt (Heap.lt_size e)) e) (Nat.le_refl _) (setO_new R), rfl, q _ c fresh (setR_few R)⟩
/-- sorted(set(xs)) -/
def ssetD : BN
  | [.list ds] => match intsOf ds with
    | some ns => if ds.length ≤ 1000 ∧ (diff ns).length < 64 then some (.newL ((sortI (diff ns)).map .int)) else none
    | none => none
  | _ => none
theorem sset_of {W : WX} {g : M (List Opd)} : ∀ σ H Q, tE X W (fBlt ssetD g) σ H Q → tCB (rSortedSet X.w) (tCons (tCB (rSetOf X.w X.K) (tA X W g)) tNil) σ H Q := by
  intro σ H Q ⟨H0, B0, fx, B, env, rr, S, hr, post⟩
  unfold fBlt at hr
  rcases bnd_some hr with ⟨os, e1, k1, k2⟩ | ⟨c, e1, k1, rfl⟩
  · refine ⟨H0, B0, fx, B, env, _, S, k1, fun vs H1 B1 s1 S1 o1 => ?_⟩
    split at k2
    · rename_i ds hd
      have ro := o1.get S1 hd
      cases ho : ssetD ds with
      | none => rw [ho] at k2; cases k2
      | some o =>
        rw [ho] at k2; cases k2
        unfold ssetD at ho
        split at ho
        · rename_i ds'
          split at ho
          · rename_i ns hns
            split at ho
            · rename_i hc
              cases ho
              cases ro with
              | cons h rest =>
                cases rest
                rename_i v
                have hq : ∃ p xs, v = .ref p ∧ SqL X.K H1 p xs ∧ Reps X.K B1 xs ds' := by
                  obtain ⟨p, xs, rfl, h1, h2⟩ := h.lst S1.h.sub
                  exact ⟨p, xs, rfl, h1, h2⟩
                obtain ⟨p, xs, rfl, hs, hrs⟩ := hq
                have ex := intsOf_reps hns hrs
                subst ex
                have hlen : ns.length ≤ 1000 := by
                  have := hrs.length
                  rw [List.length_map] at this
                  omega
                show rSetOf X.w X.K [.ref p] H1 fun v' H' => rSortedSet X.w [v'] H' Q
                refine ⟨p, ns, rfl, hs, hlen, fun q c hq hc => ⟨q, _, c, rfl, upd_same, by omega, fun ms p' up hm hl hp' => ?_⟩⟩
                have em : ms = sortI (diff ns) := by
                  have nm : ms.Nodup := up.imp fun h e => by omega
                  refine sorted_unique (((List.perm_ext_iff_of_nodup nm (nodup_diff ns)).mpr fun k => ?_).trans (sortI_perm _).symm) (up.imp fun h => Int.le_of_lt h) (sortI_sorted _)
                  rw [hm k, mem_diff, decide_eq_true_eq]
                have S2 := S1.alloc (o := SetO X.w q (fun j => decide (j ∈ ns)) c) hq
                have po := postOr (s1.trans (same_upd (none_of_same S1.h.sub hq))) S2 post
                exact po p' (ms.map V.int) hp' (by rw [em]; exact reps_ints _)
            · cases ho
          · cases ho
        · cases ho
    · cases k2
  · exact ⟨H0, B0, fx, B, env, _, S, k1, post⟩
theorem sset_ok {W : WX} {g : M (List Opd)} {z : Expr} {p p2 q1 q2 : Pos} (hc : X.calm = true) (hg : Gl X "sorted") (hm : X.mg "sorted" = none) (hg2 : Gl X "set") (hm2 : X.mg "set" = none) (ha : PA X [z] (tA X W g)) (hz : starEach [z] X.env = (false, eval z X.env) :: starEach [] X.env) :
    PE X (.Call (.Name "sorted" p) [.Call (.Name "set" p2) [z] [] q1] [] q2) (tE X W (fBlt ssetD g)) :=
  (pe_callB (cr_sortedSet hc) hg hm (by decide +kernel) (pa_cons (pe_callTy (cr_setOf hc) hg2 hm2 (by decide +kernel) ha (by decide) (by decide) hz rfl) pa_nil) (by decide) (by decide)).imp sset_of
end
end PyI

namespace PyI
open PySem PySem.Spec L2 PyProof.Rows
/-! # f(xs), where what comes back holds no list: the slots keep their lists -/
mutual
def noL : PyData → Bool
  | .none => true
  | .bool _ => true
  | .int _ => true
  | .str _ => true
  | .list _ => false
  | .tuple ds => noLs ds
  | .dict _ => false
def noLs : List PyData → Bool
  | [] => true
  | d :: ds => noL d && noLs ds
end
theorem noLs_all : ∀ {ds : List PyData}, noLs ds = true ↔ ∀ d ∈ ds, noL d = true
  | [] => ⟨fun _ d h => (by cases h), fun _ => by simp [noLs]⟩
  | d :: ds => by
    simp only [noLs, Bool.and_eq_true, List.forall_mem_cons]
    rw [noLs_all]
/-- all but lists stand as they stood -/
def SameT (H H' : Hp) : Prop := ∀ a u, H a = some u → ¬ Mut (some u) → H' a = some u
theorem SameT.seq {K : PySem.W.Frag} {H H' : Hp} {a : Addr} {xs : List V} (e : SameT H H') (h : XT K H a xs) : XT K H' a xs := by
  rcases h with ⟨o, h, d⟩ | h
  · exact .inl ⟨o, e _ _ h fun z => z, d⟩
  · exact .inr h
mutual
theorem Rep.keepT {K : PySem.W.Frag} {H H' : Hp} (e : SameT H H') : ∀ {v : V} {d : PyData}, Rep K H v d → noL d = true → Rep K H' v d
  | _, _, .non, _ => .non
  | _, _, .bl b, _ => .bl b
  | _, _, .int i, _ => .int i
  | _, _, .str x, _ => .str x
  | _, _, .lst h r, k => by simp [noL] at k
  | _, _, .tup h r, k => .tup (e.seq h) (Reps.keepT e r (by simpa [noL] using k))
  | _, _, .dK _ _ _, k => by simp [noL] at k
  | _, _, .dN _ _ _ _ _, k => by simp [noL] at k
theorem Reps.keepT {K : PySem.W.Frag} {H H' : Hp} (e : SameT H H') : ∀ {vs : List V} {ds : List PyData}, Reps K H vs ds → noLs ds = true → Reps K H' vs ds
  | _, _, .nil, _ => .nil
  | _, _, .cons r t, k => by
    simp only [noLs, Bool.and_eq_true] at k
    exact .cons (Rep.keepT e r k.1) (Reps.keepT e t k.2)
end
/-- what freezing adds are lists and dicts -/
def MoreL (B B' : Hp) : Prop := ∀ a, B a = none → B' a = none ∨ ∃ u, B' a = some u ∧ Mut (some u)
theorem MoreL.refl (B : Hp) : MoreL B B := fun a h => .inl h
theorem MoreL.trans {B B1 B2 : Hp} (h : MoreL B B1) (s : Same B1 B2) (k : MoreL B1 B2) : MoreL B B2 := fun a e => by
  rcases h a e with h | ⟨vs, h, m⟩
  · exact k a h
  · exact .inr ⟨vs, s _ _ h, m⟩
section
variable {K : PySem.W.Frag} {H0 B0 B H : Hp} {fx : List (Addr × HO)} {σ : L2.St} {env : Ev}
theorem sim_frzOX (S : Sim K H0 B0 fx B H σ env) {v : V} {o : Opd} {d : PyData} (h : OpdOk K B σ v o) (g : getO env o = some d) : ∃ B1, Same B B1 ∧ MoreL B B1 ∧ Sim K H0 B0 fx B1 H σ (frzO o env) ∧ Rep K B1 v d := by
  cases o with
  | val u => cases g; exact ⟨B, Same.refl B, MoreL.refl B, S, h⟩
  | slot i =>
    have h' : σ[i]? = some (some v) := h
    have g' : (match env[i]? with | some s => cont s | none => none) = some d := g
    cases q : env[i]? with
    | none => rw [q] at g'; cases g'
    | some s =>
      rw [q] at g'
      cases s with
      | und => cases g'
      | val u =>
        cases g'
        obtain ⟨w, h1, r⟩ := S.val q
        rw [h1] at h'; cases h'
        exact ⟨B, Same.refl B, MoreL.refl B, by rw [frzO_val q]; exact S, r⟩
      | ob us =>
        cases g'
        obtain ⟨p, vs, h1, r, sB, S2, mu⟩ := S.frzSlotM q
        rw [h1] at h'; cases h'
        refine ⟨_, sB, fun a e => ?_, by rw [frzO_ob q]; exact S2, r⟩
        by_cases hp : a = p
        · subst hp; exact .inr ⟨vs, upd_same, mu⟩
        · rw [upd_ne hp]; exact .inl e
theorem sim_frzAllX : ∀ {vs : List V} {os : List Opd} {ds : List PyData} {B : Hp} {env : Ev}, Sim K H0 B0 fx B H σ env → OpdsOk K B σ vs os → getOs env os = some ds → ∃ B1, Same B B1 ∧ MoreL B B1 ∧ Sim K H0 B0 fx B1 H σ (frzAll os env) ∧ Reps K B1 vs ds
  | _, _, _, B, _, S, .nil, g => by cases g; exact ⟨B, Same.refl B, MoreL.refl B, S, .nil⟩
  | _, _, ds, B, env, S, .cons (o := o) (os := os) h t, g => by
    have g' : (match getO env o, getOs env os with | some d, some ds => some (d :: ds) | _, _ => none) = some ds := g
    cases q : getO env o with
    | none => rw [q] at g'; cases g'
    | some d =>
      cases q2 : getOs env os with
      | none => rw [q, q2] at g'; cases g'
      | some es =>
        rw [q, q2] at g'; cases g'
        obtain ⟨B1, s1, m1, S1, r1⟩ := sim_frzOX S h q
        obtain ⟨B2, s2, m2, S2, r2⟩ := sim_frzAllX S1 (t.mono s1) (by rw [getOs_frz]; exact q2)
        exact ⟨B2, s1.trans s2, m1.trans s2 m2, S2, .cons (r1.mono s2) r2⟩
end
def fCallK (np : Nat) (cf : CF) (g : M (List Opd)) : M (PyData × Bool) := fun env => bnd (g env) fun os e =>
  match getOs e os with
  | some ds => if ds.length = np then
      match cf ds with
      | some (.ret d) => if noL d = true then some (.ok (d, false) e) else none
      | some (.exc c) => some (.exc c e)
      | none => none
    else none
  | none => none
section
variable {X : Cx} {W : WX}
theorem callK_of {np : Nat} {cf : CF} {g : M (List Opd)} : ∀ σ H Q, tE X W (fCallK np cf g) σ H Q → tCallS (spD X.K X.mg np cf) (WE W) (tA X W g) σ H Q := by
  intro σ H Q ⟨H0, B0, fx, B, env, rr, S, hr, post⟩
  unfold fCallK at hr
  rcases bnd_some hr with ⟨os, e1, k1, k2⟩ | ⟨c, e1, k1, rfl⟩
  · refine ⟨H0, B0, fx, B, env, _, S, k1, fun vs H1 B1 s1 S1 o1 => ?_⟩
    split at k2
    · rename_i ds hd
      have ro := o1.get S1 hd
      split at k2
      · rename_i hn
        refine ⟨by rw [ro.length]; exact hn, ?_⟩
        split at k2
        · rename_i d hc
          split at k2
          · rename_i hf
            cases k2
            obtain ⟨B2, s2, m2, S2, r2⟩ := sim_frzAllX S1 o1 hd
            refine ⟨B2, ds, _, S2.h.sub, r2, hc, fun v H' B' sH sB sub new r => ?_⟩
            let B3 : Hp := fun a => if B1 a = none ∧ B2 a ≠ none then none else B' a
            have up : ∀ a o, B3 a = some o → B' a = some o := fun a o e => by
              have e' : (if B1 a = none ∧ B2 a ≠ none then none else B' a) = some o := e
              split at e'
              · cases e'
              · exact e'
            have t1 : Same B1 B3 := fun a o e => by
              show (if B1 a = none ∧ B2 a ≠ none then none else B' a) = some o
              rw [if_neg fun z => by rw [e] at z; exact absurd z.1 (by simp)]
              exact sB _ _ (s2 _ _ e)
            have t2 : Same B3 H' := fun a o e => sub _ _ (up a o e)
            have t3 : ∀ a o, B3 a = some o → B1 a = some o ∨ H1 a = none := fun a o e => by
              have e' : (if B1 a = none ∧ B2 a ≠ none then none else B' a) = some o := e
              rcases new a o (up a o e) with q | q
              · refine .inl ?_
                split at e'
                · cases e'
                · rename_i h
                  cases hb : B1 a with
                  | none => exact absurd ⟨hb, by rw [q]; simp⟩ h
                  | some u =>
                    have := s2 _ _ hb
                    rw [q] at this
                    exact this.symm
              · exact .inr q
            have t4 : SameT B' B3 := fun a u e nl => by
              show (if B1 a = none ∧ B2 a ≠ none then none else B' a) = some u
              rw [if_neg fun z => ?_]
              · exact e
              · rcases m2 a z.1 with h | ⟨ws, h, m⟩
                · exact z.2 h
                · have := sB _ _ h
                  rw [e] at this
                  cases this
                  exact nl m
            exact post v H' B3 (s1.trans t1) (S1.after sH t1 t2 t3) (r.keepT t4 hf)
          · cases k2
        · rename_i c hc
          cases k2
          refine ⟨H1, ds, _, Same.refl _, ro.reps S1.h.sub, hc, fun H' a sH hm => ?_⟩
          exact post H' B1 a s1 (S1.afterH sH) hm
        · cases k2
      · cases k2
    · cases k2
  · exact ⟨H0, B0, fx, B, env, _, S, k1, post⟩
theorem callK_ok {n np : Nat} {x : PySem.Str} {cf : CF} {g : M (List Opd)} {e : Expr} {es : List Expr} {p pos : Pos} (F : FnL X n x np cf) (hr : Room n X.A) (tk : Takes X W) (hg : Gl X x) (hdb : (x == ("__debug__" : PySem.Str)) = false)
    (ha : PA X (e :: es) (tA X W g)) (he : starEach (e :: es) X.env = (false, eval e X.env) :: starEach es X.env) (hpl : (backTo pos (starEach es X.env)).any (·.1) = false) : PE X (.Call (.Name x p) (e :: es) [] pos) (tE X W (fCallK np cf g)) := by
  obtain ⟨f, fd, ps, F1, hm, hk, hb⟩ := F.ex
  exact (pe_callS F1 hr hg hm hk hb (fun σ => passAt tk σ) ha hdb he hpl).imp callK_of
end
end PyI

namespace PyI
open PySem PySem.Spec L2 PyProof.Rows

/-! # {k: v}, d.get(k, x) -/
def fDisp1 (fk fv : M PyData) : M (PyData × Bool) := fun env => bnd (fk env) fun k e1 => bnd (fv e1) fun v e2 =>
  match dkOf k with
  | some _ => some (.ok (.dict [(k, v)], true) e2)
  | none => none
def tDispN (K : PySem.W.Frag) (tk tv : TE) : TE := fun σ H Q => ∀ p, H p = none → tk σ (upd H p (.dK [])) fun x H1 => tv σ H1 fun y H2 => H2 p = some (.dK []) ∧
  ∃ B b d v q, Same B H2 ∧ x = .ref b ∧ Rep K B x d ∧ Rep K B y v ∧ dkOf d = some (.n q) ∧ Q (.ref p) (upd H2 p (.ext (DNok p [(q, b, y)])))
section
variable {X : Cx} {W : WX}
theorem pe_dispN {k v : Expr} {pos : Pos} {tk tv : TE} (hu : X.A.units + 65 < cLine) (hk : PE X k tk) (hv : PE X v tv) : PE X (.Dict [some k] [v] pos) (tDispN X.K tk tv) := by
  refine ⟨fun pins s σ H Q I q => ?_⟩
  have hn := I.hok.fresh (Nat.le_refl s.heap.objs.size)
  have I1 : L2.Inv X pins σ (upd H s.heap.objs.size (.dK [])) { s with heap := s.heap.push { cls := .type "dict", data := .dict #[] }, toks := s.toks } := I.laid (fun _ _ z => Heap.get?_push_of_some _ z) (Nat.le_refl _) (dk_empty s.heap I.big)
  have q1 := q _ hn
  rw [arm_eval_Dict, zip_pairTrees [some k] [v] X.env pos rfl rfl, dictDisplay_pairs _ (by simp [pairTrees]) (by simp [pairTrees])]
  refine wpAny_bind (wpAny_standAt (wpAny_bind (wpAny_subDictH (knd := nestedKind X.prog X.w) (show X.A.units + 8 < cLine by omega) (by simp [pairTrees]) ?_)))
  refine thn ((pps_cons (pos := pos) hk hv pps_nil).run pins _ σ _ (fun ps H2 => ∃ x y, ps = [(x, y)] ∧ H2 s.heap.objs.size = some (.dK []) ∧
    ∃ B b d v q, Same B H2 ∧ x = .ref b ∧ Rep X.K B x d ∧ Rep X.K B y v ∧ dkOf d = some (.n q) ∧ Q (.ref s.heap.objs.size) (upd H2 s.heap.objs.size (.ext (DNok s.heap.objs.size [(q, b, y)])))) I1 ?_) fun ws s2 ⟨ps, H2, I2, rel, x, y, ep, e, B, b, d, vd, qk, sB, ex, rx, ry, hq, fin⟩ => ?_
  · have mono : ∀ {t : TE} {e : Expr} (h : PE X e t) , True := fun _ => True.intro
    show tk σ _ fun x H1 => tv σ H1 fun y H2 => ∃ x' y', [(x, y)] = [(x', y')] ∧ _
    have conv : (fun x H1 => tv σ H1 fun y H2 => ∃ x' y', [(x, y)] = [(x', y')] ∧ H2 s.heap.objs.size = some (.dK []) ∧
      ∃ B b d v q, Same B H2 ∧ x' = .ref b ∧ Rep X.K B x' d ∧ Rep X.K B y' v ∧ dkOf d = some (.n q) ∧ Q (.ref s.heap.objs.size) (upd H2 s.heap.objs.size (.ext (DNok s.heap.objs.size [(q, b, y')])))) =
      (fun x H1 => tv σ H1 fun y H2 => H2 s.heap.objs.size = some (.dK []) ∧ ∃ B b d v q, Same B H2 ∧ x = .ref b ∧ Rep X.K B x d ∧ Rep X.K B y v ∧ dkOf d = some (.n q) ∧ Q (.ref s.heap.objs.size) (upd H2 s.heap.objs.size (.ext (DNok s.heap.objs.size [(q, b, y)])))) := by
      funext x H1
      congr 1
      funext y H2
      refine propext ⟨fun ⟨x', y', e, r⟩ => ?_, fun r => ⟨x, y, rfl, r⟩⟩
      cases e; exact r
    rw [conv]
    exact q1
  · subst ep ex
    cases rel with
    | @cons _ w0 _ _ r0 t =>
      cases t
      obtain ⟨uk, uv⟩ := w0
      obtain ⟨r1, r2⟩ := r0
      obtain rfl : uk = Value.ref b := r1
      obtain ⟨b', eb, is⟩ := dk_n I2 sB rx hq
      cases eb
      obtain ⟨d1, d2⟩ := dk_nil I2 e
      refine ⟨[(qk, b, uv)], ⟨rfl, rfl, is, True.intro⟩, d1, fun h' tk hm hs => wpAny_pure ⟨.ref s.heap.objs.size, _, ?_, rfl, fin⟩⟩
      have z2 : ([(d, vd)] : List (PyData × PyData)).map (fun p => dkOf p.1) = (putX [] qk b y).map (fun p => some (DK.n p.1)) := by simp [putX, lookN, hq]
      exact dn_stored (xs := []) (us := []) I2 e True.intro .nil r2 d2 (by rw [sizeLine_eq]; decide) z2 hm hs
theorem disp1_ok {k v : Expr} {pos : Pos} {fk fv : M PyData} (hu : X.A.units + 65 < cLine) (hk : PE X k (tD X W fk)) (hv : PE X v (tD X W fv)) : PE X (.Dict [some k] [v] pos) (tE X W (fDisp1 fk fv)) := by
  refine ⟨fun pins s σ H Q I ⟨H0, B0, fx, B, env, rr, S, hr, post⟩ => ?_⟩
  have pK := pe_disp (X := X) (pos := pos) (pps_cons hk hv pps_nil) rfl rfl (by simp) (by simp)
  have pN := pe_dispN (pos := pos) hu hk hv
  unfold fDisp1 at hr
  rcases bnd_some hr with ⟨kd, e1, k1, k2⟩ | ⟨c, e1, k1, rfl⟩
  · rcases bnd_some k2 with ⟨vd, e2, k3, k4⟩ | ⟨c, e2, k3, rfl⟩
    · cases hq : dkOf kd with
      | none => rw [hq] at k4; cases k4
      | some q =>
        rw [hq] at k4
        cases k4
        cases q with
        | k q =>
          refine pK.run pins s σ H Q I fun p hp => ⟨H0, B0, _, B, env, _, S.fresh hp, k1, fun x H1 B1 s1 S1 r1 => ⟨H0, B0, _, B1, e1, _, S1, k3, fun y H2 B2 s2 S2 r2 => ?_⟩⟩
          have hx := dk_k (r1.mono s2) hq
          subst hx
          refine ⟨(S2.h.kept (p, .dK []) List.mem_cons_self).1, [(q, y)], rfl, by simp, ?_⟩
          exact post p _ (.dic [(kd, vd)]) _ B2 rfl (s1.trans s2) S2.write (.dK (kvs := putK [] q y) (by simp [putK, hq]) (by simpa [putK] using Reps.one r2))
        | n q =>
          refine pN.run pins s σ H Q I fun p hp => ⟨H0, B0, _, B, env, _, S.fresh hp, k1, fun x H1 B1 s1 S1 r1 => ⟨H0, B0, _, B1, e1, _, S1, k3, fun y H2 B2 s2 S2 r2 => ?_⟩⟩
          have hb : ∃ b, x = .ref b := by
            cases r1 <;> first | exact ⟨_, rfl⟩ | (simp [dkOf] at hq; done)
          obtain ⟨b, rfl⟩ := hb
          refine ⟨(S2.h.kept (p, .dK []) List.mem_cons_self).1, B2, b, kd, vd, q, S2.h.sub, rfl, r1.mono s2, r2, hq, ?_⟩
          exact post p _ (.dic [(kd, vd)]) _ B2 rfl (s1.trans s2) S2.write (.dN (xs := [(q, b, y)]) (by simp) (by simp [hq]) (Reps.one (r1.mono s2)) (Reps.one r2))
    · exact pK.run pins s σ H Q I fun p hp => ⟨H0, B0, _, B, env, _, S.fresh hp, k1, fun x H1 B1 s1 S1 r1 => ⟨H0, B0, _, B1, e1, _, S1, k3, fun H' B' a s2 S2 hm => post H' B' a (s1.trans s2) S2.drop hm⟩⟩
  · exact pK.run pins s σ H Q I fun p hp => ⟨H0, B0, _, B, env, _, S.fresh hp, k1, fun H' B' a s2 S2 hm => post H' B' a s2 S2.drop hm⟩
/-- d.get(k, x) -/
def isDic : Option PyData → Bool
  | some (.dict _) => true
  | _ => false
def getR (o : Option PyData) (k : PyData) : Option (Option PyData) := match o with
  | some (.dict ps) => getP ps k
  | _ => none
def fDget2 (fo : M Opd) (fk fd : M PyData) : M PyData := fun env => bnd (fo env) fun o e1 => if isDic (getO e1 o) = true then bnd (fk e1) fun k e2 => bnd (fd e2) fun d e3 =>
    match getR (getO e3 o) k with
    | some r => some (.ok (r.getD d) e3)
    | none => none
  else none
theorem isDic_some {o : Option PyData} (h : isDic o = true) : ∃ ps, o = some (.dict ps) := by
  unfold isDic at h
  split at h
  · exact ⟨_, rfl⟩
  · cases h
theorem dget2_ok {o k v : Expr} {ap pos : Pos} {fo : M Opd} {fk fd : M PyData} (hu : X.A.units + 65 < cLine) (ho : PE X o (tO X W fo)) (hk : PE X k (tD X W fk)) (hv : PE X v (tD X W fd)) (m : M2 X o "get" ap k v pos) :
    PE X (.Call (.Attribute o "get" ap) [k, v] [] pos) (tD X W (fDget2 fo fk fd)) := by
  refine ⟨fun pins s σ H Q I ⟨H0, B0, fx, B, env, rr, S, hr, post⟩ => ?_⟩
  have key : tO X W fo σ H fun x H1 => ∃ a B1 ps, x = .ref a ∧ Same B1 H1 ∧ DRep X.K B1 H1 x ps ∧ tD X W fk σ H1 fun y H2 => tD X W fd σ H2 fun z H3 => ∃ B3 ps3 kd zd r, Same B3 H3 ∧ DRep X.K B3 H3 x ps3 ∧ Rep X.K B3 y kd ∧ Rep X.K B3 z zd ∧ getP ps3 kd = some r ∧ ∀ v, Rep X.K B3 v (r.getD zd) → Q v H3 := by
    unfold fDget2 at hr
    rcases bnd_some hr with ⟨od, e1, k1, k2⟩ | ⟨c, e1, k1, rfl⟩
    · refine ⟨H0, B0, fx, B, env, _, S, k1, fun x H1 B1 s1 S1 o1 => ?_⟩
      split at k2
      · rename_i hd
        obtain ⟨ps, hg⟩ := isDic_some hd
        have d1 := (o1.get S1 hg).dicD S1.h.sub
        obtain ⟨a, ea, d1'⟩ := d1
        refine ⟨a, B1, ps, ea, S1.h.sub, ⟨a, ea, d1'⟩, ?_⟩
        rcases bnd_some k2 with ⟨kd, e2, k3, k4⟩ | ⟨c, e2, k3, rfl⟩
        · refine ⟨H0, B0, fx, B1, e1, _, S1, k3, fun y H2 B2 s2 S2 r2 => ?_⟩
          rcases bnd_some k4 with ⟨zd, e3, k5, k6⟩ | ⟨c, e3, k5, rfl⟩
          · refine ⟨H0, B0, fx, B2, e2, _, S2, k5, fun z H3 B3 s3 S3 r3 => ?_⟩
            cases hgr : getR (getO e3 od) kd with
            | none => rw [hgr] at k6; cases k6
            | some r =>
              rw [hgr] at k6
              cases k6
              unfold getR at hgr
              split at hgr
              · rename_i ps3 hg3
                have o3 := (o1.mono s2).mono s3
                exact ⟨B3, ps3, kd, zd, r, S3.h.sub, (o3.get S3 hg3).dicD S3.h.sub, r2.mono s3, r3, hgr, fun v rv => post v H3 B3 ((s1.trans s2).trans s3) S3 rv⟩
              · cases hgr
          · exact ⟨H0, B0, fx, B2, e2, _, S2, k5, fun H' B' a s3 S3 hm => post H' B' a ((s1.trans s2).trans s3) S3 hm⟩
        · exact ⟨H0, B0, fx, B1, e1, _, S1, k3, fun H' B' a s3 S3 hm => post H' B' a (s1.trans s3) S3 hm⟩
      · cases k2
    · exact ⟨H0, B0, fx, B, env, _, S, k1, post⟩
  refine wpAny_Call_method m.base m.few m.line PySem.F.plainAttrs_dict PySem.F.slot_dict_get PySem.F.type_dict_get (thn (ho.run pins s σ H _ I key) fun u s1 ⟨x, H1, I1, rx, a, B1, ps, ex, sB1, d1, q1⟩ => ?_)
  subst ex
  obtain rfl : u = Value.ref a := rx
  obtain ⟨a', es, ep, ks, ea, hsm, raw, _⟩ := dic_raw I1 sB1 d1
  cases ea
  refine ⟨raw.typeIs, fun b q => ?_, ?_⟩
  · cases q
    obtain ⟨ob, h1, h2, _⟩ := raw
    exact ⟨ob, h1, h2.2.1⟩
  · rw [m.trees]
    refine Calls.callWith_builtin rfl (Calls.evalArgs_plain (Calls.spliced_cons (thn (hk.run pins s1 σ H1 _ I1 q1) fun iv s2 ⟨y, H2, I2, ry, q2⟩ => Calls.spliced_cons (thn (hv.run pins s2 σ H2 _ I2 q2) fun fv s3 ⟨z, H3, I3, rz, B3, ps3, kd, zd, r, sB3, d3, r3, r4, g, fin⟩ => Calls.spliced_nil ?_))))
    rcases d_cases I3 sB3 (.inl r3) d3 g with ⟨ov, dg, ro, a2, ea2⟩ | ⟨a2, b, kk, zs, ea2, rfl, is, hm, hd, ov, g1, g2⟩
    · refine d_get2 (by first | omega | (simp; omega)) I3 dg ry rz fun w' s4 I4 rw' => ⟨_, H3, I4, rw', fin _ ?_⟩
      cases ov <;> cases r <;> first | exact r4 | exact ro | exact ro.elim
    · cases ea2
      obtain rfl : iv = Value.ref b := ry
      refine getOr_keyed (x := fv) (show _ + 8 < cLine by simp; omega) is hd ⟨zs, hm, rfl⟩ ⟨ov.getD z, H3, I3.tok _, ?_, fin _ ?_⟩
      · rw [valueAt_pairsH]; exact g1.getD rz
      · cases ov <;> cases r <;> first | exact r4 | exact g2 | exact g2.elim
end
end PyI

namespace PyI
open PySem PySem.Spec L2 PyProof.Rows

/-! # t.index(x) of a tuple of ints -/
def isTupO : Option PyData → Bool
  | some (.tuple _) => true
  | _ => false
def idxR : Option PyData → PyData → Option Nat
  | some (.tuple ds), .int k => match intsOf ds with
    | some ns => if k ∈ ns then some (ns.idxOf k) else none
    | none => none
  | _, _ => none
def fTidx (fo : M Opd) (fk : M PyData) : M PyData := fun env => bnd (fo env) fun o e1 => if isTupO (getO e1 o) = true then bnd (fk e1) fun k e2 =>
    match idxR (getO e2 o) k with
    | some j => some (.ok (.int j) e2)
    | none => none
  else none
theorem isTupO_some {o : Option PyData} (h : isTupO o = true) : ∃ ds, o = some (.tuple ds) := by
  unfold isTupO at h
  split at h
  · exact ⟨_, rfl⟩
  · cases h
theorem idxR_some {o : Option PyData} {k : PyData} {j : Nat} (h : idxR o k = some j) : ∃ ds ns i, o = some (.tuple ds) ∧ k = .int i ∧ intsOf ds = some ns ∧ i ∈ ns ∧ j = ns.idxOf i := by
  unfold idxR at h
  split at h
  · rename_i ds i
    cases hn : intsOf ds with
    | none => rw [hn] at h; cases h
    | some ns =>
      rw [hn] at h
      simp only at h
      split at h
      · rename_i hi
        cases h
        exact ⟨ds, ns, i, rfl, rfl, hn, hi, rfl⟩
      · cases h
  · cases h
section
variable {X : Cx} {W : WX}
theorem xt_obj {pins : List (Addr × Obj)} {s : Shared} {σ : L2.St} {H : Hp} (I : L2.Inv X pins σ H s) {a : Addr} {xs : List V} (h : XT X.K H a xs) : s.heap.NoDictAt (.ref a) := by
  rcases h with ⟨o, h, d⟩ | ⟨o, its, n, h1, h2, d, _⟩
  · exact ⟨o, (I.hok a _ h).1, d⟩
  · exact ⟨o, I.kIn a o h1, d⟩
theorem tidx_ok {o k : Expr} {ap pos : Pos} {fo : M Opd} {fk : M PyData} (ho : PE X o (tO X W fo)) (hk : PE X k (tD X W fk)) (m : M1 X o "index" ap k pos) :
    PE X (.Call (.Attribute o "index" ap) [k] [] pos) (tD X W (fTidx fo fk)) := by
  refine ⟨fun pins s σ H Q I ⟨H0, B0, fx, B, env, rr, S, hr, post⟩ => ?_⟩
  have key : tO X W fo σ H fun x H1 => ∃ a B1 xs, x = .ref a ∧ Same B1 H1 ∧ XT X.K B1 a xs ∧ tD X W fk σ H1 fun y H2 => ∃ (B2 : Hp) (ys : List V) (ns : List Int) (i : Int), Same B2 H2 ∧ XT X.K B2 a ys ∧ ys = ns.map V.int ∧ y = .int i ∧ i ∈ ns ∧ Q (.int (ns.idxOf i : Nat)) H2 := by
    unfold fTidx at hr
    rcases bnd_some hr with ⟨od, e1, k1, k2⟩ | ⟨c, e1, k1, rfl⟩
    · refine ⟨H0, B0, fx, B, env, _, S, k1, fun x H1 B1 s1 S1 o1 => ?_⟩
      split at k2
      · rename_i hd
        obtain ⟨ds, hg⟩ := isTupO_some hd
        obtain ⟨a, xs, ea, xt, rs⟩ := (o1.get S1 hg).tupX
        refine ⟨a, B1, xs, ea, S1.h.sub, xt, ?_⟩
        rcases bnd_some k2 with ⟨kd, e2, k3, k4⟩ | ⟨c, e2, k3, rfl⟩
        · refine ⟨H0, B0, fx, B1, e1, _, S1, k3, fun y H2 B2 s2 S2 r2 => ?_⟩
          cases hgr : idxR (getO e2 od) kd with
          | none => rw [hgr] at k4; cases k4
          | some j =>
            rw [hgr] at k4
            cases k4
            obtain ⟨ds2, ns, i, g2, rfl, hi, hm, rfl⟩ := idxR_some hgr
            obtain ⟨a2, ys, ea2, xt2, rs2⟩ := ((o1.mono s2).get S2 g2).tupX
            rw [ea] at ea2
            cases ea2
            have := intsOf_reps hi rs2
            cases r2
            exact ⟨B2, ys, ns, i, S2.h.sub, xt2, this, rfl, hm, post _ H2 B2 (s1.trans s2) S2 (.int _)⟩
        · exact ⟨H0, B0, fx, B1, e1, _, S1, k3, fun H' B' a s3 S3 hm => post H' B' a (s1.trans s3) S3 hm⟩
      · cases k2
    · exact ⟨H0, B0, fx, B, env, _, S, k1, post⟩
  refine wpAny_Call_method m.base m.few m.line PySem.F.plainAttrs_tuple PySem.F.slot_tuple_index PySem.F.type_tuple_index (thn (ho.run pins s σ H _ I key) fun u s1 ⟨x, H1, I1, rx, a, B1, xs, ex, sB1, xt, q1⟩ => ?_)
  subst ex
  obtain rfl : u = Value.ref a := rx
  obtain ⟨its, rv, p, _⟩ := I1.tuple (same_seqT sB1 xt.sq)
  refine ⟨p.typeIs, fun b q => ?_, ?_⟩
  · cases q
    exact xt_obj I1 (xt.mono sB1)
  · rw [m.trees]
    refine Calls.callWith_builtin rfl (Calls.evalArgs_plain (Calls.spliced_cons (thn (hk.run pins s1 σ H1 _ I1 q1) fun iv s2 ⟨y, H2, I2, ry, B2, ys, ns, i, sB2, xt2, ey, eyi, hm, fin⟩ => Calls.spliced_nil ?_)))
    subst ey eyi
    obtain ⟨t, rfl⟩ := ry
    obtain ⟨its2, rv2, p2, _⟩ := I2.tuple (same_seqT sB2 xt2.sq)
    exact PySem.SeqAt.tuple_index_ints p2 (Vals.ints rv2) hm ⟨.int (ns.idxOf i : Nat), H2, I2.tok _, ⟨_, rfl⟩, fin⟩

/-! # list(range(..)), tuple(range(..)), xs[::-1] -/
def rgD (i j : Int) : List PyData := (List.range (j - i).toNat).map fun k => .int (i + (k : Nat))
theorem reps_rg {K : PySem.W.Frag} {B : Hp} (i j : Int) : Reps K B (rgV i j) (rgD i j) := by
  unfold rgV rgD
  generalize (j - i).toNat = n
  induction n with
  | zero => exact .nil
  | succ n ih =>
    rw [List.range_succ, List.map_append, List.map_append]
    exact ih.append (Reps.one (.int _))
def rgO (t : Bool) : B2
  | .int i, .int j => if -(2 ^ 62) ≤ i ∧ i < 2 ^ 62 ∧ -(2 ^ 62) ≤ j ∧ j < 2 ^ 62 ∧ (j - i).toNat ≤ 2 ^ 24 then some (if t = true then .newT (rgD i j) else .newL (rgD i j)) else none
  | _, _ => none
def rg1O (t : Bool) (u : PyData) : Option Or := rgO t (.int 0) u
def rvO : PyData → Option Or
  | .list ds => some (.newL ds.reverse)
  | _ => none
theorem rgO_some {t : Bool} {u v : PyData} {o : Or} (h : rgO t u v = some o) : ∃ i j, u = .int i ∧ v = .int j ∧ RgOk i j ∧ o = if t = true then .newT (rgD i j) else .newL (rgD i j) := by
  unfold rgO at h
  split at h
  · split at h
    · rename_i hz
      cases h
      exact ⟨_, _, rfl, rfl, hz, rfl⟩
    · cases h
  · cases h
def tTupRgX (te : L2.St → Hp → (Int → Int → Hp → Prop) → Prop) : TE := fun σ H Q => te σ H fun a b H1 => RgOk a b ∧ ∀ q o, H1 q = none → o.dict = none → Q (.ref q) (upd H1 q (.frz o (.tup (rgV a b))))
theorem pe_tupRgX {e : Expr} {te : L2.St → Hp → (Int → Int → Hp → Prop) → Prop} {p pos : Pos} (hc : X.calm = true) (hg : Gl X "tuple") (hm : X.mg "tuple" = none) (he : PRg X e te) (na : starEach [e] X.env = (false, eval e X.env) :: starEach [] X.env := by rfl) : PE X (.Call (.Name "tuple" p) [e] [] pos) (tTupRgX te) := by
  refine ⟨fun pins s σ H Q I h => Call_ (ld_blt I hg hm boot_tuple (PyProof.Rows.callWith_type1 (args_cons (thn (he pins s σ H _ I h) fun x s1 ⟨r, a, b, t, u, v, H1, ex, hr, I1, ⟨b1, b2, b3, b4, b5⟩, q⟩ => args_nil ?_) na) na))⟩
  subst ex
  refine call_tuple_range (n := (b - a).toNat) (I1.ok.hd hc) hr (small_one b1 b2 b3 b4) (rangeSize_nat a b) b5 fun h' tk acc hk hi => ?_
  have I2 : L2.Inv X pins σ H1 { s1 with heap := h', toks := tk } := I1.kept hk
  exact ⟨.ref h'.objs.size, _, I2.laid (t' := tk) (o := .frz (tobj acc 0) (.tup (rgV a b))) (fun c o e => Heap.get?_push_of_some _ e) (Nat.le_refl _)
    ⟨Heap.get?_push_size h' rfl, by rw [rgV_length, sizeLine_eq]; omega, acc.toList, vals_rg hi, by rw [Array.toArray_toList]; exact IsTup.new _ _⟩, rfl, q _ _ (I2.hok.fresh (Nat.le_refl _)) rfl⟩
/-- the name of the maker -/
def rgN (t : Bool) : PySem.Str := if t = true then "tuple" else "list"
theorem rg2_ok {t : Bool} {a b : Expr} {p p2 q1 q2 : Pos} {fa fb : M Opd} (hc : X.calm = true) (hg : Gl X (rgN t)) (hm : X.mg (rgN t) = none) (hgr : Gl X "range") (hmr : X.mg "range" = none) (ha : PE X a (tO X W fa)) (hb : PE X b (tO X W fb))
    (na : starEach [a, b] X.env = (false, eval a X.env) :: starEach [b] X.env) (nb : starEach [b] X.env = (false, eval b X.env) :: starEach [] X.env) (hp : (backTo q1 (starEach [b] X.env)).any (·.1) = false) :
    PE X (.Call (.Name (rgN t) p) [.Call (.Name "range" p2) [a, b] [] q1] [] q2) (tE X W (fBin (rgO t) fa fb)) := by
  have he : PRg X (.Call (.Name "range" p2) [a, b] [] q1) (tRg2 (tO X W fa) (tO X W fb)) := prg_2 hgr hmr ha hb na nb hp
  cases t with
  | false => exact (pe_listRg hc hg hm he).imp (bin_ok (r := fun x y H Q => ∃ i j, x = .int i ∧ y = .int j ∧ RgOk i j ∧ ∀ q, H q = none → Q (.ref q) (upd H q (.lst (rgV i j)))) fun x y H Q ⟨B, u, v, o, sB, hu, hv, ho, post⟩ => by
      obtain ⟨i, j, rfl, rfl, hz, rfl⟩ := rgO_some ho
      exact ⟨i, j, hu.int, hv.int, hz, fun q hq => post q _ hq (reps_rg i j)⟩)
  | true => exact (pe_tupRgX hc hg hm he).imp (bin_ok (r := fun x y H Q => ∃ i j, x = .int i ∧ y = .int j ∧ RgOk i j ∧ ∀ q o, H q = none → o.dict = none → Q (.ref q) (upd H q (.frz o (.tup (rgV i j))))) fun x y H Q ⟨B, u, v, o, sB, hu, hv, ho, post⟩ => by
      obtain ⟨i, j, rfl, rfl, hz, rfl⟩ := rgO_some ho
      exact ⟨i, j, hu.int, hv.int, hz, fun q o hq hd => post.2 q _ o hq hd (reps_rg i j)⟩)
theorem rg1_ok {t : Bool} {a : Expr} {p p2 q1 q2 : Pos} {fa : M Opd} (hc : X.calm = true) (hg : Gl X (rgN t)) (hm : X.mg (rgN t) = none) (hgr : Gl X "range") (hmr : X.mg "range" = none) (ha : PE X a (tO X W fa))
    (na : starEach [a] X.env = (false, eval a X.env) :: starEach [] X.env) : PE X (.Call (.Name (rgN t) p) [.Call (.Name "range" p2) [a] [] q1] [] q2) (tE X W (fUn (rg1O t) fa)) := by
  have he : PRg X (.Call (.Name "range" p2) [a] [] q1) (tRg1 (tO X W fa)) := prg_1 hgr hmr ha na
  cases t with
  | false => exact (pe_listRg hc hg hm he).imp (un_ok (r := fun x H Q => ∃ n, x = .int n ∧ RgOk 0 n ∧ ∀ q, H q = none → Q (.ref q) (upd H q (.lst (rgV 0 n)))) fun x H Q ⟨B, u, o, sB, hu, ho, post⟩ => by
      obtain ⟨i, j, ei, rfl, hz, rfl⟩ := rgO_some ho
      cases ei
      exact ⟨j, hu.int, hz, fun q hq => post q _ hq (reps_rg 0 j)⟩)
  | true => exact (pe_tupRgX hc hg hm he).imp (un_ok (r := fun x H Q => ∃ n, x = .int n ∧ RgOk 0 n ∧ ∀ q o, H q = none → o.dict = none → Q (.ref q) (upd H q (.frz o (.tup (rgV 0 n))))) fun x H Q ⟨B, u, o, sB, hu, ho, post⟩ => by
      obtain ⟨i, j, ei, rfl, hz, rfl⟩ := rgO_some ho
      cases ei
      exact ⟨j, hu.int, hz, fun q o hq hd => post.2 q _ o hq hd (reps_rg 0 j)⟩)
theorem Reps.rev {K : PySem.W.Frag} {B : Hp} : ∀ {vs : List V} {ds : List PyData}, Reps K B vs ds → Reps K B vs.reverse ds.reverse
  | _, _, .nil => .nil
  | _, _, .cons r t => by
    rw [List.reverse_cons, List.reverse_cons]
    exact (Reps.rev t).append (Reps.one r)
theorem rvl_ok {e : Expr} {k : Nat} {p1 p2 p3 pos : Pos} {fa : M Opd} (ha : PE X e (tO X W fa)) : PE X (.Subscript e (.Slice none none (some (.UnaryOp .USub (.Constant (.int 1) k p1) p2)) p3) pos) (tE X W (fUn rvO fa)) :=
  (pe_revL ha).imp (un_ok (r := fun x H Q => ∃ a xs, x = .ref a ∧ SqL X.K H a xs ∧ ∀ p, H p = none → Q (.ref p) (upd H p (.lst xs.reverse))) fun x H Q ⟨B, u, o, sB, hu, ho, post⟩ => by
    unfold rvO at ho
    split at ho
    · cases ho
      obtain ⟨a, xs, ea, hl, rs⟩ := hu.lst sB
      exact ⟨a, xs, ea, hl, fun p hp => post p _ hp rs.rev⟩
    · cases ho)
end
end PyI

namespace PyI
open PySem PySem.Spec L2 PyProof.Rows
/-! # comprehensions with two fors -/
def compL2 (tg : TgF) (it1 : M (List PyData)) (tg1 : TgF) (test1 : M Bool) (elt : M PyData) (vs vs1 : List Nat) : List PyData → List PyData → Ev → Option (List PyData × Ev)
  | [], acc, e => some (acc, e)
  | d :: ds, acc, e => match tg d (wipeE e vs) with
    | none => none
    | some e1 => match it1 e1 with
      | some (.ok ds1 e2) => match compL tg1 test1 elt vs1 ds1 acc e2 with
        | some (acc', e3) => compL2 tg it1 tg1 test1 elt vs vs1 ds acc' e3
        | none => none
      | _ => none
def fComp2 (it : M (List PyData)) (tg : TgF) (it1 : M (List PyData)) (tg1 : TgF) (test1 : M Bool) (elt : M PyData) (vs vs1 : List Nat) : M (PyData × Bool) := fun env => bnd (it env) fun ds e =>
  match compL2 tg it1 tg1 test1 elt vs vs1 ds [] e with
  | some (ys, e') => some (.ok (.list ys, true) (backE e e' vs))
  | none => none
theorem wipeE_get (e : Ev) (i : Nat) : ∀ vs : List Nat, (wipeE e vs)[i]? = if i ∈ vs then (e[i]?).map (fun _ => Slot.und) else e[i]?
  | [] => by simp [wipeE]
  | v :: vs => by
    unfold wipeE
    by_cases h : i = v
    · subst h
      by_cases hl : i < e.length
      · rw [List.getElem?_set_self (by rw [wipeE_length]; exact hl), List.getElem?_eq_getElem hl]
        simp
      · rw [List.getElem?_eq_none (by rw [List.length_set, wipeE_length]; omega), List.getElem?_eq_none (by omega)]
        simp
    · rw [List.getElem?_set_ne (fun z => h z.symm), wipeE_get e i vs]
      simp [h]
theorem wipeE_sub (e : Ev) {vs vs1 : List Nat} (h : ∀ i ∈ vs1, i ∈ vs) : wipeE (wipeE e vs1) vs = wipeE e vs := by
  apply List.ext_getElem?
  intro i
  rw [wipeE_get, wipeE_get, wipeE_get]
  by_cases h1 : i ∈ vs
  · rw [if_pos h1, if_pos h1]
    split
    · cases e[i]? <;> rfl
    · rfl
  · rw [if_neg h1, if_neg h1, if_neg (fun z => h1 (h i z))]
theorem wipe_sub (σ : L2.St) {vs vs1 : List Nat} (h : ∀ i ∈ vs1, i ∈ vs) : L2.wipe (L2.wipe σ vs1) vs = L2.wipe σ vs := by
  apply List.ext_getElem?
  intro i
  rw [wipe_get, wipe_get, wipe_get]
  by_cases h1 : i ∈ vs
  · rw [if_pos h1, if_pos h1]
    split
    · cases σ[i]? <;> rfl
    · rfl
  · rw [if_neg h1, if_neg h1, if_neg (fun z => h1 (h i z))]
section
variable {X : Cx} {W : WX}
theorem compRun2 {w w1 : Bool} {vs vs1 : List Nat} {it it1 : M (List PyData)} {tg tg1 : TgF} {test1 : M Bool} {elt : M PyData} {sl sl1 : List Nat} (hsl : ∀ s ∈ sl, s ∈ vs) (hsl1 : ∀ s ∈ sl1, s ∈ vs1) (hv : ∀ i ∈ vs1, i ∈ vs) :
    ∀ σ H Q, tE X W (fComp2 it tg it1 tg1 test1 elt vs vs1) σ H Q → tLc2 (tI X W w it) (tG X w sl tg) (tT X W0 mYes) (tI X W0 w1 it1) (tG X w1 sl1 tg1) (tT X W0 test1) (tD X W0 elt) vs vs1 σ H Q := by
  intro σ H Q ⟨H0, B0, fx, B, env, rr, S, hr, post⟩
  unfold fComp2 at hr
  have wback : ∀ {ws us : List Nat} {τ τ' : L2.St}, (∀ s ∈ us, s ∈ ws) → (L2.wipe τ' us = L2.wipe (L2.wipe τ ws) us) → L2.wipe τ' ws = L2.wipe τ ws := fun {ws us τ τ'} hs e => by
    have := congrArg (fun z => L2.wipe z ws) e
    simp only [wipe_sub _ hs] at this
    rw [this, wipe_sub _ (fun i h => h)]
  rcases bnd_some hr with ⟨ds, e1, k1, k2⟩ | ⟨c, e1, k1, rfl⟩
  · refine ⟨H0, B0, fx, B, env, _, S, k1, fun J H1 B1 s1 S1 io => fun D hD => ?_⟩
    split at k2
    · rename_i ys e' hL
      cases k2
      refine ⟨fun i m H => ∃ acc accV e B2, Sim X.K H0 B0 ((D, .lst accV) :: fx) B2 H (L2.wipe σ vs) (wipeE e vs) ∧ Reps X.K B2 accV acc ∧ Same B1 B2 ∧ m = ds.length - i ∧ i ≤ ds.length ∧ compL2 tg it1 tg1 test1 elt vs vs1 (ds.drop i) acc e = some (ys, e'), ⟨ds.length, [], [], e1, B1, (S1.fresh hD).wipe vs, .nil, Same.refl B1, by simp, Nat.zero_le _, hL⟩, ?_⟩
      rintro i m H2 ⟨acc, accV, e, B2, S2, r2, s2, rfl, hi, hc⟩
      obtain ⟨io1, io2⟩ := io _ _ _ _ _ _ _ i s2 S2
      by_cases hlt : i < ds.length
      · rw [List.drop_eq_getElem_cons hlt] at hc
        obtain ⟨go, yld⟩ := io2 ds[i] (List.getElem?_eq_getElem hlt)
        refine .inr ⟨go, fun H' => ∃ acc accV e B2, Sim X.K H0 B0 ((D, .lst accV) :: fx) B2 H' (L2.wipe σ vs) (wipeE e vs) ∧ Reps X.K B2 accV acc ∧ Same B1 B2 ∧ compL2 tg it1 tg1 test1 elt vs vs1 (ds.drop (i + 1)) acc e = some (ys, e'), fun H' ⟨acc, accV, e, B3, S3, r3, s3, c3⟩ => ⟨_, by omega, acc, accV, e, B3, S3, r3, s3, rfl, hlt, c3⟩, fun x H3 y => ?_⟩
        obtain ⟨B3, s3, S3, r3⟩ := yld x H3 y
        unfold compL2 at hc
        split at hc
        · cases hc
        · rename_i ea ha
          refine ⟨H0, B0, _, B3, _, ea, _, S3, r3, ha, fun σ' S4 w4 => ?_⟩
          have w4' : L2.wipe σ' vs = L2.wipe σ vs := by
            rw [w4 vs hsl]
            exact wipe_sub _ fun i h => h
          refine ⟨w4', ?_⟩
          split at hc
          · rename_i ds1 e2 hi1
            split at hc
            · rename_i acc' e3 hL1
              refine ⟨H0, B0, _, B3, ea, _, S4, rfl, fun H5 B5 s5 S5 => ?_⟩
              refine iteT ?_
              refine ⟨H0, B0, _, B5, ea, _, S5, hi1, fun J1 H6 B6 s6 S6 io1' => ?_⟩
              refine ⟨fun j k H => ∃ acc accV e B7, Sim X.K H0 B0 ((D, .lst accV) :: fx) B7 H (L2.wipe σ' vs1) (wipeE e vs1) ∧ Reps X.K B7 accV acc ∧ Same B6 B7 ∧ k = ds1.length - j ∧ j ≤ ds1.length ∧ compL tg1 test1 elt vs1 (ds1.drop j) acc e = some (acc', e3), ⟨ds1.length, acc, accV, e2, B6, S6.wipe vs1, ((r2.mono s3).mono s5).mono s6, Same.refl B6, by simp, Nat.zero_le _, hL1⟩, ?_⟩
              rintro j k H7 ⟨bcc, bccV, eb, B7, S7, r7, s7, rfl, hj, hc1⟩
              obtain ⟨jo1, jo2⟩ := io1' _ _ _ _ _ _ _ j s7 S7
              by_cases hjl : j < ds1.length
              · rw [List.drop_eq_getElem_cons hjl] at hc1
                obtain ⟨go1, yld1⟩ := jo2 ds1[j] (List.getElem?_eq_getElem hjl)
                refine .inr ⟨go1, fun H' => ∃ acc accV e B8, Sim X.K H0 B0 ((D, .lst accV) :: fx) B8 H' (L2.wipe σ' vs1) (wipeE e vs1) ∧ Reps X.K B8 accV acc ∧ Same B6 B8 ∧ compL tg1 test1 elt vs1 (ds1.drop (j + 1)) acc e = some (acc', e3), fun H' ⟨acc, accV, e, B3, S3, r3, s3, c3⟩ => ⟨_, by omega, acc, accV, e, B3, S3, r3, s3, rfl, hjl, c3⟩, fun x1 H8 y1 => ?_⟩
                obtain ⟨B8, s8, S8, r8⟩ := yld1 x1 H8 y1
                unfold compL at hc1
                split at hc1
                · cases hc1
                · rename_i ec hc2
                  refine ⟨H0, B0, _, B8, _, ec, _, S8, r8, hc2, fun σ3 S9 w9 => ?_⟩
                  have w9' : L2.wipe σ3 vs1 = L2.wipe σ' vs1 := by
                    rw [w9 vs1 hsl1]
                    exact wipe_sub _ fun i h => h
                  refine ⟨w9', ?_⟩
                  split at hc1
                  · rename_i ed hd
                    refine ⟨H0, B0, _, B8, ec, _, S9, hd, fun H9 B9 s9 S10 => ?_⟩
                    refine iteT ?_
                    split at hc1
                    · rename_i yd ef hy
                      refine ⟨H0, B0, _, B9, ed, _, S10, hy, fun v H11 B11 s11 S11 r11 => ?_⟩
                      split at hc1
                      · rename_i hz
                        have rA := ((r7.mono s8).mono s9).mono s11
                        obtain ⟨h1, _, _⟩ := S11.h.kept (D, .lst bccV) List.mem_cons_self
                        exact ⟨bccV, h1, by rw [rA.length]; exact hz, bcc ++ [yd], bccV ++ [v], ef, B11, wipeE_wipe (S11.write) w9', rA.append (.one r11), ((s7.trans s8).trans s9).trans s11, hc1⟩
                      · cases hc1
                    · cases hc1
                  · rename_i ed hd
                    refine ⟨H0, B0, _, B8, ec, _, S9, hd, fun H9 B9 s9 S10 => ?_⟩
                    refine iteF ?_
                    exact ⟨bcc, bccV, ed, B9, wipeE_wipe S10 w9', (r7.mono s8).mono s9, (s7.trans s8).trans s9, hc1⟩
                  · cases hc1
              · have e0 : j = ds1.length := by omega
                subst e0
                rw [List.drop_length] at hc1
                cases hc1
                refine .inl ⟨jo1 (Nat.le_refl _), acc', bccV, e3, B7, ?_, r7, (((s2.trans s3).trans s5).trans s6).trans s7, hc⟩
                have := S7.wipe vs
                rw [wipe_sub _ hv, wipeE_sub _ hv, w4'] at this
                exact this
            · cases hc
          · cases hc
      · have e0 : i = ds.length := by omega
        subst e0
        rw [List.drop_length] at hc
        cases hc
        refine .inl ⟨io1 (Nat.le_refl _), ?_⟩
        exact post D _ (.lst ys) H2 B2 rfl (s1.trans s2) (S1.back s2 S2) (.lst r2)
    · cases k2
  · exact ⟨H0, B0, fx, B, env, _, S, k1, post⟩
theorem comp2_ok {elt tgE iter tgE1 iter1 : Expr} {ifs1 : List Expr} {scope : Scope} {own : List (PySem.Str × Nat)} {vs1 : List Nat} {pos : Pos} {it it1 : M (List PyData)} {tg tg1 : TgF} {sl sl1 : List Nat} {test1 : M Bool} {ef : M PyData} (hc : X.calm = true) (hN : X.N.Nodup) (hi : PI X tgE iter (tI X W (twE tgE) it)) (ok : BlkOk X.N X.env.scope scope own)
    (hv : ∀ i ∈ vs1, i ∈ own.map (·.2))
    (hg : ∀ s H C cl fp, PG (blkX X scope s H C cl fp) tgE (tG (blkX X scope s H C cl fp) (twE tgE) sl tg)) (hsl : ∀ s ∈ sl, s ∈ own.map (·.2))
    (hi1 : ∀ s H C cl fp, PI (blkX X scope s H C cl fp) tgE1 iter1 (tI (blkX X scope s H C cl fp) W0 (twE tgE1) it1))
    (hg1 : ∀ s H C cl fp, PG (blkX X scope s H C cl fp) tgE1 (tG (blkX X scope s H C cl fp) (twE tgE1) sl1 tg1)) (hsl1 : ∀ s ∈ sl1, s ∈ vs1)
    (ht1 : ∀ s H C cl fp, PTs (blkX X scope s H C cl fp) ifs1 (tT (blkX X scope s H C cl fp) W0 test1))
    (he : ∀ s H C cl fp, PE (blkX X scope s H C cl fp) elt (tD (blkX X scope s H C cl fp) W0 ef)) (hs : ∀ x, foldedSetIterable iter X.env x = pure x) (hs1 : ∀ env x, foldedSetIterable iter1 env x = pure x) :
    PE X (.ListComp elt [⟨tgE, iter, [], 0⟩, ⟨tgE1, iter1, ifs1, 0⟩] scope pos) (tE X W (fComp2 it tg it1 tg1 test1 ef (own.map (·.2)) vs1)) :=
  (pe_lc2 hc hN hi ok hv hg (fun _ _ _ _ _ => tests0) hi1 hg1 ht1 he hs hs1).imp (compRun2 (X := X) hsl hsl1 hv)
theorem setLc2_ok {i : Nat} {y : PySem.Str} {py : Pos} {elt tgE iter tgE1 iter1 : Expr} {ifs1 : List Expr} {scope : Scope} {own : List (PySem.Str × Nat)} {vs1 : List Nat} {pos spos : Pos} {it it1 : M (List PyData)} {tg tg1 : TgF} {sl sl1 : List Nat} {test1 : M Bool} {ef : M PyData} (hc : X.calm = true) (hN : X.N.Nodup) (hy : X.N[i]? = some y)
    (hyl : X.env.scope.names.lookup y = some .local) (hsw : swapsWith (.ListComp elt [⟨tgE, iter, [], 0⟩, ⟨tgE1, iter1, ifs1, 0⟩] scope pos) (some (.Name y py)) spos.line X.env = pure true) (hi : PI X tgE iter (tI X W (twE tgE) it)) (ok : BlkOk X.N X.env.scope scope own)
    (hv : ∀ i ∈ vs1, i ∈ own.map (·.2))
    (hg : ∀ s H C cl fp, PG (blkX X scope s H C cl fp) tgE (tG (blkX X scope s H C cl fp) (twE tgE) sl tg)) (hsl : ∀ s ∈ sl, s ∈ own.map (·.2))
    (hi1 : ∀ s H C cl fp, PI (blkX X scope s H C cl fp) tgE1 iter1 (tI (blkX X scope s H C cl fp) W0 (twE tgE1) it1))
    (hg1 : ∀ s H C cl fp, PG (blkX X scope s H C cl fp) tgE1 (tG (blkX X scope s H C cl fp) (twE tgE1) sl1 tg1)) (hsl1 : ∀ s ∈ sl1, s ∈ vs1)
    (ht1 : ∀ s H C cl fp, PTs (blkX X scope s H C cl fp) ifs1 (tT (blkX X scope s H C cl fp) W0 test1))
    (he : ∀ s H C cl fp, PE (blkX X scope s H C cl fp) elt (tD (blkX X scope s H C cl fp) W0 ef)) (hs : ∀ x, foldedSetIterable iter X.env x = pure x) (hs1 : ∀ env x, foldedSetIterable iter1 env x = pure x) :
    PS X (.Assign [.Name y py] (.ListComp elt [⟨tgE, iter, [], 0⟩, ⟨tgE1, iter1, ifs1, 0⟩] scope pos) spos) (tS X W (sSet i (fComp2 it tg it1 tg1 test1 ef (own.map (·.2)) vs1))) :=
  (ps_setLc2 hc hN hy hyl hsw hi ok hv hg (fun _ _ _ _ _ => tests0) hi1 hg1 ht1 he hs hs1).imp fun D σ H h => compRun2 (X := X) hsl hsl1 hv σ H _ (setR_of h)
end
end PyI

namespace PyI
open PySem PySem.Spec L2 PyProof.Rows
/-! # comprehensions of dicts, keys of every kind that a dict takes here -/
section
variable {X : Cx} {pins : List (Addr × Obj)} {σ : L2.St} {H B : Hp} {s : Shared}
/-- the store of one turn -/
theorem d_grow (hu : X.A.units + 65 < cLine) {E : Value → Shared → Prop} (I : L2.Inv X pins σ H s) (sB : Same B H) {a : Addr} {u0 : HO} {ps : List (PyData × PyData)} {x y : V} {d v : PyData} {q : DK} {ux uy : Value} {Q : Unit → Shared → Prop} (e : H a = some u0) (rc : RepC X.K B a u0 (.dic ps))
    (rx : Rep X.K B x d) (ry : Rep X.K B y v) (hq : dkOf d = some q) (hk : kindOk ps q = true) (hl : ps.length < sizeLine) (r1 : RelV x ux) (r2 : RelV y uy)
    (h : ∀ u1 s', RepC X.K B a u1 (.dic (putP ps q d v)) → L2.Inv X pins σ (upd H a u1) s' → Q () s') : wpAny (model X.prog X.w) X.A (dictSet a ux uy) Q E s := by
  have room : (nestedKind X.prog X.w).room X.A := by
    show X.A.units + 8 < cLine
    omega
  cases rc with
  | dK k1 rv =>
    rename_i kvs
    have lk : kvs.length = ps.length := by have := congrArg List.length k1; simpa using this.symm
    rcases kind_k k1 hk with ⟨q', rfl⟩ | ⟨q', rfl, rfl, rfl⟩
    · have ex := dk_k rx hq
      subst ex
      obtain ⟨p1, p2⟩ := put_k k1 rv ry hq
      exact d_dictSet I e (by omega) r1 r2 fun s' I' => h _ s' (.dK p1 p2) I'
    · obtain ⟨b, rfl, is⟩ := dk_n I sB rx hq
      obtain ⟨h1, h2⟩ := dk_nil I e
      obtain rfl : ux = Value.ref b := r1
      obtain ⟨z1, z2, z3, z4⟩ := put_n (xs := []) (ps := []) (b := b) (k := q') rfl .nil .nil rx ry hq
      refine wpAny_dictSet_heap room is h1 (fun h' hm hs => h _ _ (.dN z1 z2 z3 z4) ?_) (by simp)
      exact dn_stored (xs := []) (us := []) I e True.intro .nil r2 h2 (by rw [sizeLine_eq]; decide) z2 hm hs
  | dN n k1 rk rv =>
    rename_i xs
    have lk : xs.length = ps.length := by have := congrArg List.length k1; simpa using this.symm
    obtain ⟨q', rfl⟩ := kind_n n k1 hk
    obtain ⟨b, rfl, is⟩ := dk_n I sB rx hq
    obtain ⟨us, ru, h1, h2, h3⟩ := dn_at I sB e k1 rk
    obtain rfl : ux = Value.ref b := r1
    obtain ⟨z1, z2, z3, z4⟩ := put_n k1 rk rv rx ry hq
    have hz : (zipU xs us).length ≤ sizeLine := by
      have hlen : us.length = xs.length := by have := ru.length; rw [List.length_map] at this; omega
      have := congrArg List.length (zipU_keys xs us hlen)
      rw [List.length_map, List.length_map] at this
      omega
    refine wpAny_dictSet_heap room is h1 (fun h' hm hs => h _ _ (.dN z1 z2 z3 z4) ?_) hz
    exact dn_stored I e True.intro ru r2 h2 (by omega) z2 hm hs
/-- what a turn's store wants: the dict at D grows by y: z -/
def Grow (K : PySem.W.Frag) (D : Addr) (y z : V) (H : Hp) (Nx : Hp → Prop) : Prop := ∃ B u0 ps d dv q, Same B H ∧ H D = some u0 ∧ RepC K B D u0 (.dic ps) ∧ Rep K B y d ∧ Rep K B z dv ∧ dkOf d = some q ∧ kindOk ps q = true ∧ ps.length < sizeLine ∧ ∀ u1, RepC K B D u1 (.dic (putP ps q d dv)) → Nx (upd H D u1)
def DTurns (K : PySem.W.Frag) (g : TG) (tk tv : TE) (vs : List Nat) (σ : L2.St) (J : It) (D : Addr) (Q : Hp → Prop) (Z : Nat → Nat → Hp → Prop) : Prop := ∀ i m H, Z i m H → (J.stop i H ∧ Q H) ∨ (J.go i H ∧ ∃ Nx : Hp → Prop, (∀ H', Nx H' → ∃ m', m' < m ∧ Z (i + 1) m' H') ∧
  ∀ x H', J.yld i H x H' → g x (L2.wipe σ vs) H' fun σ2 H2 => L2.wipe σ2 vs = L2.wipe σ vs ∧ tk σ2 H2 fun y H3 => tv σ2 H3 fun z H4 => Grow K D y z H4 Nx)
def tDcX (K : PySem.W.Frag) (wi : TI) (g : TG) (tk tv : TE) (vs : List Nat) : TE := fun σ H Q => wi σ H fun J H1 => ∀ D, H1 D = none → ∃ Z : Nat → Nat → Hp → Prop, (∃ m, Z 0 m (upd H1 D (.dK []))) ∧ DTurns K g tk tv vs σ J D (Q (.ref D)) Z
end
section
variable {X : Cx}
theorem noE {α : Type} {M : Model} {A : Around} {t : Sem α} {Q R : α → Shared → Prop} {E : Value → Shared → Prop} {s : Shared} (h : wpAny M A t Q (fun _ _ => False) s) (k : ∀ a z, Q a z → R a z) : wpAny M A t R E s :=
  wpAny_mono h k fun _ _ z => z.elim
/-- the loop, in the block's own context -/
theorem dc_loop {Y : Cx} {fp : List Addr} {tn : Nat → Heap → Prop} {J : It} {itA D : Addr} {σ : L2.St} {H0 : Hp} {s : Shared} {kx vx tg iter : Expr} {scope : Scope} {pos : Pos} {g : TG} {tk tv : TE} {vs : List Nat} {Qd : Hp → Prop} {R : Result → Shared → Prop} {Z : Nat → Nat → Hp → Prop} {m0 : Nat}
    (hu : Y.A.units + 65 < cLine) (hc : Y.calm = true) (hx : Y.xe = fun _ _ => False) (T : Turn Y.prog Y.w Y.K tg J fp itA tn) (pg : PG Y tg g) (pk : PE Y kx tk) (pv : PE Y vx tv)
    (own : ∀ {τ : L2.St} {H' : Hp} {z : Shared}, L2.Inv Y [] τ H' z → (∀ b ∈ fp, H' b = none) → ∀ b ∈ fp, FpOk Y [] H' b) (turns : DTurns Y.K g tk tv vs σ J D Qd Z)
    (I0 : L2.Inv Y [] (L2.wipe σ vs) H0 s) (t0 : tn 0 s.heap) (n0 : ∀ b ∈ fp, H0 b = none) (z0 : Z 0 m0 H0) (out : ∀ z H', L2.Inv Y [] (L2.wipe σ vs) H' z → Qd H' → R (.ok .next) z) :
    codeAny (model Y.prog Y.w) Y.A (.compLoop (.DictComp kx vx [⟨tg, iter, [], 0⟩] scope pos) 0 (.ref itA) (.ref D) Y.env) R s := by
  refine compLoop_anyD (fun k z => ∃ i H', L2.Inv Y [] (L2.wipe σ vs) H' z ∧ tn i z.heap ∧ (∀ b ∈ fp, H' b = none) ∧ Z i k H') (fun k z ⟨i, H1, I1, t1, n1, z1⟩ => ?_) m0 ⟨0, H0, I0, t0, n0, z0⟩
  rcases turns i k H1 z1 with ⟨hst, hq⟩ | ⟨hgo, Nx, hNx, step⟩
  · refine noE (T.done Y rfl rfl rfl hc i [] z _ H1 _ I1 (own I1 n1) t1 hst) fun r y ⟨er, Iy⟩ => ?_
    cases er
    exact out y H1 Iy hq
  · refine noE (T.item Y rfl rfl rfl hc i [] z _ H1 _ I1 (own I1 n1) t1 hgo) fun r y ⟨u, er, hy⟩ => ?_
    cases er
    refine noE hy fun _ y2 ⟨x, H2, I2, rx, hyld, t2, n2⟩ => ?_
    have Ip := I2.pinned (own I2 n2) (T.obj _ _ t2)
    have a1 := pg.run _ y2 _ H2 x u _ Ip rx (step x H2 hyld)
    rw [hx] at a1
    refine noE a1 fun _ y3 ⟨τ, H3, I3, ew, q3⟩ => ?_
    have a2 := (pts_nil (X := Y)).run _ y3 τ H3 (fun b H => b = true ∧ tk τ H fun p K1 => tv τ K1 fun q K2 => Grow Y.K D p q K2 Nx) I3 ⟨rfl, q3⟩
    rw [hx] at a2
    refine noE a2 fun b y4 ⟨H4, I4, eb, q4⟩ => ?_
    subst eb
    rw [if_pos rfl]
    have a3 := pk.run _ y4 τ H4 _ I4 q4
    rw [hx] at a3
    refine noE a3 fun kv y5 ⟨p, H5, I5, rp, q5⟩ => ?_
    have a4 := pv.run _ y5 τ H5 _ I5 q5
    rw [hx] at a4
    refine noE a4 fun vv y6 ⟨q, H6, I6, rq, B, u0, ps, d, dv, qk, sB, eD, rc, rd, rv, hqk, hko, hlt, hnext⟩ => ?_
    obtain ⟨_, rp'⟩ : True ∧ RelV p kv := ⟨trivial, rp⟩
    refine d_grow hu I6 sB eD rc rd rv hqk hko hlt rp' rq fun u1 y7 rc1 I7 => ?_
    obtain ⟨m', hm, zz⟩ := hNx _ (hnext u1 rc1)
    have pin : ∀ b ∈ fp, ∀ o, y2.heap.get? b = some o → y7.heap.get? b = some o ∧ (upd H6 D u1) b = none := fun b hb o e => by
      obtain ⟨k1, k2, _⟩ := I7.pin (b, o) (List.mem_append_right _ (List.mem_append_right _ (mem_pinsAt hb e)))
      exact ⟨k1, k2⟩
    refine ⟨m', hm, i + 1, _, (I7.unpinned (pins := [])).weak (by rw [← ew, wipe_length]) fun j v e => ?_, T.keep _ _ _ t2 fun b hb o e => (pin b hb o e).1, fun b hb => ?_, zz⟩
    · rw [← ew] at e
      exact (wipe_some e).1
    · obtain ⟨o, e, _⟩ := T.obj _ _ t2 b hb
      exact (pin b hb o e).2
theorem dcx_core {pins : List (Addr × Obj)} {s : Shared} {σ : L2.St} {H : Hp} {Q : VK} {kx vx tg iter : Expr} {scope : Scope} {own : List (PySem.Str × Nat)} {pos pos' : Pos} {wi : TI} {g : TG} {tk tv : TE} {use : Option (Value → Sem Unit)} {Qf : Value → Shared → Prop}
    (hu : X.A.units + 65 < cLine) (hc : X.calm = true) (hN : X.N.Nodup) (I : L2.Inv X pins σ H s) (hi : PI X tg iter wi) (ok : BlkOk X.N X.env.scope scope own)
    (hg : ∀ s H C cl fp, PG (blkX X scope s H C cl fp) tg g) (hk : ∀ s H C cl fp, PE (blkX X scope s H C cl fp) kx tk) (hv : ∀ s H C cl fp, PE (blkX X scope s H C cl fp) vx tv) (hs : ∀ x, foldedSetIterable iter X.env x = pure x)
    (h : tDcX X.K wi g tk tv (own.map (·.2)) σ H Q)
    (fin : ∀ D C z m H', L2.Inv X pins σ H' z → Q (.ref D) H' → z.heap.Ns C m → FpOk X pins H' C → compPost (model X.prog X.w) X.A X.xe use Qf (.ref D) C (.ok .next) z) :
    wpAny (model X.prog X.w) X.A (comprehension (.DictComp kx vx [⟨tg, iter, [], 0⟩] scope pos) scope X.env pos' newDict false (eval iter X.env) use) Qf X.xe s := by
  have cells : ∀ y ∈ scope.names, y.2 = .free → ∃ c, X.env.cells.lookup y.1 = some c := fun y hy e => (ok.free y hy e).elim (fun z => I.ok.has _ (.inl z)) fun z => I.ok.has _ (.inr z)
  refine wpAny_comprehension_free (use := use) rfl hs (closure_ok cells) ok.kind (fun y hy e => (ok.uniq y hy).trans (congrArg some e)) ?_
  refine thn (hi.run pins s σ H _ I h) fun xv z1 hz1 => thn hz1 fun iv z2 ⟨itA, fp, tn, J, H2, ei, I2, T, t2, f2, q⟩ => ?_
  subst ei
  refine wpAny_newObj_type (newEnv_comp ?_)
  obtain ⟨Z, ⟨m0, z0⟩, turns⟩ := q z2.heap.objs.size (I2.hok.fresh (Nat.le_refl _))
  have I3 : L2.Inv X pins σ (upd H2 z2.heap.objs.size (.dK [])) { z2 with heap := z2.heap.push { cls := .type "dict", data := .dict #[] } } := I2.laid (t' := z2.toks) (fun b o e => Heap.get?_push_of_some _ e) (Nat.le_refl _) (dk_empty z2.heap I2.big)
  have old : ∀ b ∈ fp, b < z2.heap.objs.size := fun b hb => let ⟨o, e, _⟩ := T.obj _ _ t2 b hb; Heap.lt_size e
  have f3 : ∀ b ∈ fp, FpOk X pins (upd H2 z2.heap.objs.size (.dK [])) b ∧ b < ({ z2 with heap := z2.heap.push { cls := .type "dict", data := .dict #[] } } : Shared).heap.objs.size := fun b hb => by
    refine ⟨⟨?_, (f2 b hb).2⟩, ?_⟩
    · rw [upd_ne (Nat.ne_of_lt (old b hb))]
      exact (f2 b hb).1
    · show b < (z2.heap.push _).objs.size
      rw [Heap.size_push]
      exact Nat.lt_succ_of_lt (old b hb)
  have t3 : tn 0 (z2.heap.push { cls := .type "dict", data := .dict #[] }) := T.keep _ _ _ t2 fun b _ o e => Heap.get?_push_of_some _ e
  generalize hz3 : ({ z2 with heap := z2.heap.push { cls := .type "dict", data := .dict #[] } } : Shared) = z3 at I3 f3
  generalize hH3 : upd H2 z2.heap.objs.size (.dK []) = H3 at I3 f3 z0
  have eh : z3.heap = z2.heap.push { cls := .type "dict", data := .dict #[] } := by rw [← hz3]
  rw [← eh] at t3
  have I4 := block_start I3 ok hN f3
  have t4 : tn 0 (pushCells (z3.heap.push { cls := .type "dict", data := .dict #[] }) scope.names) := T.keep _ _ _ t3 fun b _ o e => pushCells_keeps _ _ _ _ (Heap.get?_push_of_some _ e)
  have loop := dc_loop (Y := blkX X scope z3 H3 z3.heap.objs.size (cellsFrom (z3.heap.objs.size + 1) scope.names (cloFrom X.env.cells scope.names [])) fp) (iter := iter) (scope := scope) (pos := pos) (R := compPost (model X.prog X.w) X.A X.xe use Qf (.ref z2.heap.objs.size) z3.heap.objs.size)
    hu hc rfl T (hg _ _ _ _ _) (hk _ _ _ _ _) (hv _ _ _ _ _) (fun {τ H' z} I' hn b hb => ⟨hn b hb, (I'.ok.exf b hb).1, I'.ok.exfs b hb, .inl hb, fun x c e => (I'.ok.exf b hb).2 x c e, fun p hp => absurd (show p ∈ ([] : List (Addr × Obj)) ++ [] from hp) (by simp)⟩)
    turns I4 t4 (fun b hb => (f3 b hb).1.1) z0 (fun z H' I' hq => by
      have I5 : L2.Inv X pins σ H' z := I3.call' (ch := fp) I'.os I'.base I'.hok I'.bare fun b hb => ⟨(f3 b hb).1.2.2.2.1, (f3 b hb).1.2.1, (f3 b hb).1.2.2.2.2.1, (f3 b hb).1.2.2.2.2.2⟩
      obtain ⟨m, hn, _⟩ := I'.loc
      exact fin _ _ z m H' I5 hq hn (I3.fpOk (Nat.le_refl _) I'.free))
  exact codeAny_compStart_dict loop (T.self X.A 0 _ _ _ t4 loop)
/-- as a value -/
theorem pe_dcx {kx vx tg iter : Expr} {scope : Scope} {own : List (PySem.Str × Nat)} {pos : Pos} {wi : TI} {g : TG} {tk tv : TE} (hu : X.A.units + 65 < cLine) (hc : X.calm = true) (hN : X.N.Nodup) (hi : PI X tg iter wi) (ok : BlkOk X.N X.env.scope scope own)
    (hg : ∀ s H C cl fp, PG (blkX X scope s H C cl fp) tg g) (hk : ∀ s H C cl fp, PE (blkX X scope s H C cl fp) kx tk) (hv : ∀ s H C cl fp, PE (blkX X scope s H C cl fp) vx tv) (hs : ∀ x, foldedSetIterable iter X.env x = pure x) :
    PE X (.DictComp kx vx [⟨tg, iter, [], 0⟩] scope pos) (tDcX X.K wi g tk tv (own.map (·.2))) := ⟨fun pins s σ H Q I h => by
  rw [arm_eval_DictComp]
  exact dcx_core hu hc hN I hi ok hg hk hv hs h fun D C z m H' I' q hn ⟨f0, f1, f2, f3, f4, f5⟩ => ⟨m, hn, fun h2 sb => ⟨.ref D, H', I'.turned (t' := z.toks) (fun b o hb e => (sb.2 b hb).trans e) f0 f1 f3 f4 f5, rfl, q⟩⟩⟩
/-- given to a name on one line -/
theorem ps_setDcx {i : Nat} {y : PySem.Str} {py : Pos} {kx vx tg iter : Expr} {scope : Scope} {own : List (PySem.Str × Nat)} {pos spos : Pos} {wi : TI} {g : TG} {tk tv : TE} (hu : X.A.units + 65 < cLine) (hc : X.calm = true) (hN : X.N.Nodup) (hy : X.N[i]? = some y) (hyl : X.env.scope.names.lookup y = some .local)
    (hsw : swapsWith (.DictComp kx vx [⟨tg, iter, [], 0⟩] scope pos) (some (.Name y py)) spos.line X.env = pure true) (hi : PI X tg iter wi) (ok : BlkOk X.N X.env.scope scope own)
    (hg : ∀ s H C cl fp, PG (blkX X scope s H C cl fp) tg g) (hk : ∀ s H C cl fp, PE (blkX X scope s H C cl fp) kx tk) (hv : ∀ s H C cl fp, PE (blkX X scope s H C cl fp) vx tv) (hs : ∀ x, foldedSetIterable iter X.env x = pure x) :
    PS X (.Assign [.Name y py] (.DictComp kx vx [⟨tg, iter, [], 0⟩] scope pos) spos) (tAsg (tDcX X.K wi g tk tv (own.map (·.2))) (gName i)) := ⟨fun pins s σ H D I h => by
  rw [exec_Assign_Name_used _ _ _ _ hsw]
  have h : tDcX X.K wi g tk tv (own.map (·.2)) σ H (fun x H1 => gName i x σ H1 D.nx) := h
  refine wpAny_bind (wpAny_standAt (wpAny_bind ?_))
  show wpAny _ X.A (do
    let _ ← comprehension (.DictComp kx vx [⟨tg, iter, [], 0⟩] scope pos) scope X.env (firstIterPos [⟨tg, iter, [], 0⟩] pos) newDict false (eval iter X.env) (some (assign (.Name y py) X.env))) _ _ s
  refine wpAny_bind (thn (dcx_core (Qf := fun _ z => SP X pins D .next z) hu hc hN I hi ok hg hk hv hs h fun L C z m H' I' q hn ⟨f0, f1, f2, f3, f4, f5⟩ => ?_) fun _ z hq => wpAny_pure (wpAny_pure hq))
  show wpAny _ _ (assign (.Name y py) X.env (.ref L)) _ _ _
  refine wpAny_assign_Name (store_ok2 (v := V.ref L) I' hN hy (.inl hyl) rfl (fun z2 I2 ⟨a, sb, ha⟩ => ?_) (.inr hyl))
  have ne : C ≠ a := ha.elim (fun e => by rw [e]; exact f1) fun e e' => f4 y a e e'.symm
  exact ⟨m, hn.sameBut sb ne, fun h3 sb3 => ⟨_, H', I2.turned (t' := z2.toks) (fun b o hb e => (sb3.2 b hb).trans e) f0 f1 f3 f4 f5, q⟩⟩⟩
def dcL (tg : TgF) (fk fv : M PyData) (vs : List Nat) : List PyData → List (PyData × PyData) → Ev → Option (List (PyData × PyData) × Ev)
  | [], ps, e => some (ps, e)
  | d :: ds, ps, e => match tg d (wipeE e vs) with
    | none => none
    | some e1 => match fk e1 with
      | some (.ok k e2) => match fv e2 with
        | some (.ok v e3) => match dkOf k with
          | some q => if kindOk ps q = true ∧ ps.length < sizeLine then dcL tg fk fv vs ds (putP ps q k v) e3 else none
          | none => none
        | _ => none
      | _ => none
def fDcomp (it : M (List PyData)) (tg : TgF) (fk fv : M PyData) (vs : List Nat) : M (PyData × Bool) := fun env => bnd (it env) fun ds e =>
  match dcL tg fk fv vs ds [] e with
  | some (ps, e') => some (.ok (.dict ps, true) (backE e e' vs))
  | none => none
theorem dcRun {W : WX} {w : Bool} {vs : List Nat} {it : M (List PyData)} {tg : TgF} {fk fv : M PyData} {sl : List Nat} (hsl : ∀ s ∈ sl, s ∈ vs) : ∀ σ H Q, tE X W (fDcomp it tg fk fv vs) σ H Q → tDcX X.K (tI X W w it) (tG X w sl tg) (tD X W0 fk) (tD X W0 fv) vs σ H Q := by
  intro σ H Q ⟨H0, B0, fx, B, env, rr, S, hr, post⟩
  unfold fDcomp at hr
  rcases bnd_some hr with ⟨ds, e1, k1, k2⟩ | ⟨c, e1, k1, rfl⟩
  · refine ⟨H0, B0, fx, B, env, _, S, k1, fun J H1 B1 s1 S1 io D hD => ?_⟩
    split at k2
    · rename_i qs e' hL
      cases k2
      refine ⟨fun i m H => ∃ ps u0 e B2, Sim X.K H0 B0 ((D, u0) :: fx) B2 H (L2.wipe σ vs) (wipeE e vs) ∧ RepC X.K B2 D u0 (.dic ps) ∧ Same B1 B2 ∧ m = ds.length - i ∧ i ≤ ds.length ∧ dcL tg fk fv vs (ds.drop i) ps e = some (qs, e'), ⟨ds.length, [], _, e1, B1, (S1.fresh hD).wipe vs, .dK (by simp) .nil, Same.refl B1, by simp, Nat.zero_le _, hL⟩, ?_⟩
      rintro i m H2 ⟨ps, u0, e, B2, S2, r2, s2, rfl, hi, hc⟩
      obtain ⟨io1, io2⟩ := io _ _ _ _ _ _ _ i s2 S2
      by_cases hlt : i < ds.length
      · rw [List.drop_eq_getElem_cons hlt] at hc
        obtain ⟨go, yld⟩ := io2 ds[i] (List.getElem?_eq_getElem hlt)
        refine .inr ⟨go, fun H' => ∃ ps u0 e B2, Sim X.K H0 B0 ((D, u0) :: fx) B2 H' (L2.wipe σ vs) (wipeE e vs) ∧ RepC X.K B2 D u0 (.dic ps) ∧ Same B1 B2 ∧ dcL tg fk fv vs (ds.drop (i + 1)) ps e = some (qs, e'), fun H' ⟨ps, u0, e, B3, S3, r3, s3, c3⟩ => ⟨_, by omega, ps, u0, e, B3, S3, r3, s3, rfl, hlt, c3⟩, fun x H3 y => ?_⟩
        obtain ⟨B3, s3, S3, r3⟩ := yld x H3 y
        unfold dcL at hc
        split at hc
        · cases hc
        · rename_i ea ha
          refine ⟨H0, B0, _, B3, _, ea, _, S3, r3, ha, fun σ' S4 w4 => ?_⟩
          have w4' : L2.wipe σ' vs = L2.wipe σ vs := by
            rw [w4 vs hsl]
            exact wipe_sub _ fun i h => h
          refine ⟨w4', ?_⟩
          split at hc
          · rename_i kd eb hkd
            refine ⟨H0, B0, _, B3, ea, _, S4, hkd, fun v1 H5 B5 s5 S5 r5 => ?_⟩
            split at hc
            · rename_i vd ec hvd
              refine ⟨H0, B0, _, B5, eb, _, S5, hvd, fun v2 H6 B6 s6 S6 r6 => ?_⟩
              split at hc
              · rename_i q hq
                split at hc
                · rename_i hz
                  have rA := ((r2.mono s3).mono s5).mono s6
                  refine ⟨B6, u0, ps, kd, vd, q, S6.h.sub, (S6.h.kept (D, u0) List.mem_cons_self).1, rA, r5.mono s6, r6, hq, hz.1, hz.2, fun u1 rc => ?_⟩
                  exact ⟨_, u1, ec, B6, wipeE_wipe (S6.write) w4', rc, ((s2.trans s3).trans s5).trans s6, hc⟩
                · cases hc
              · cases hc
            · cases hc
          · cases hc
      · have e0 : i = ds.length := by omega
        subst e0
        rw [List.drop_length] at hc
        cases hc
        exact .inl ⟨io1 (Nat.le_refl _), post D _ (.dic _) H2 B2 rfl (s1.trans s2) (S1.back s2 S2) r2⟩
    · cases k2
  · exact ⟨H0, B0, fx, B, env, _, S, k1, post⟩
theorem dcomp_ok {W : WX} {kx vx tgE iter : Expr} {scope : Scope} {own : List (PySem.Str × Nat)} {pos : Pos} {it : M (List PyData)} {tg : TgF} {sl : List Nat} {fk fv : M PyData} (hu : X.A.units + 65 < cLine) (hc : X.calm = true) (hN : X.N.Nodup) (hi : PI X tgE iter (tI X W (twE tgE) it)) (ok : BlkOk X.N X.env.scope scope own)
    (hg : ∀ s H C cl fp, PG (blkX X scope s H C cl fp) tgE (tG (blkX X scope s H C cl fp) (twE tgE) sl tg)) (hsl : ∀ s ∈ sl, s ∈ own.map (·.2)) (hk : ∀ s H C cl fp, PE (blkX X scope s H C cl fp) kx (tD (blkX X scope s H C cl fp) W0 fk))
    (hv : ∀ s H C cl fp, PE (blkX X scope s H C cl fp) vx (tD (blkX X scope s H C cl fp) W0 fv)) (hs : ∀ x, foldedSetIterable iter X.env x = pure x) :
    PE X (.DictComp kx vx [⟨tgE, iter, [], 0⟩] scope pos) (tE X W (fDcomp it tg fk fv (own.map (·.2)))) :=
  (pe_dcx hu hc hN hi ok hg hk hv hs).imp (dcRun hsl)
theorem setDc_ok {W : WX} {i : Nat} {y : PySem.Str} {py : Pos} {kx vx tgE iter : Expr} {scope : Scope} {own : List (PySem.Str × Nat)} {pos spos : Pos} {it : M (List PyData)} {tg : TgF} {sl : List Nat} {fk fv : M PyData} (hu : X.A.units + 65 < cLine) (hc : X.calm = true) (hN : X.N.Nodup) (hy : X.N[i]? = some y)
    (hyl : X.env.scope.names.lookup y = some .local) (hsw : swapsWith (.DictComp kx vx [⟨tgE, iter, [], 0⟩] scope pos) (some (.Name y py)) spos.line X.env = pure true) (hi : PI X tgE iter (tI X W (twE tgE) it)) (ok : BlkOk X.N X.env.scope scope own)
    (hg : ∀ s H C cl fp, PG (blkX X scope s H C cl fp) tgE (tG (blkX X scope s H C cl fp) (twE tgE) sl tg)) (hsl : ∀ s ∈ sl, s ∈ own.map (·.2)) (hk : ∀ s H C cl fp, PE (blkX X scope s H C cl fp) kx (tD (blkX X scope s H C cl fp) W0 fk))
    (hv : ∀ s H C cl fp, PE (blkX X scope s H C cl fp) vx (tD (blkX X scope s H C cl fp) W0 fv)) (hs : ∀ x, foldedSetIterable iter X.env x = pure x) :
    PS X (.Assign [.Name y py] (.DictComp kx vx [⟨tgE, iter, [], 0⟩] scope pos) spos) (tS X W (sSet i (fDcomp it tg fk fv (own.map (·.2))))) :=
  (ps_setDcx hu hc hN hy hyl hsw hi ok hg hk hv hs).imp fun D σ H h => dcRun hsl σ H _ (setR_of h)
end
end PyI

namespace PyI
open PySem PySem.Spec L2 PyProof.Rows
/-! # try: .., except C as e: if isinstance(e, (..)): return False; return isinstance(e, R) and isinstance(e, ValueError) -/
section
variable {X : Cx} {W : WX}
def tHndZ (k : Nat) (cs : List Addr) (a : Addr) (cls : Value) (D0 : Addr) : TS := fun D σ H => cls = .ref D0 ∧ σ[k]? = some (some (.ref a)) ∧ ∀ q, H q = none → D.rt (.bl true) (upd H q (.tup (cs.map V.ref)))
theorem hndz_ok {a D Ra : Addr} {oe : Obj} {pn : List (Addr × Obj)} {k kk k2 : Nat} {en R : PySem.Str} {es : List Expr} {cs : List Addr} {p1 p2 p3 p4 p5 p6 p7 p8 p9 p10 p11 p12 p13 p14 q1 q2 q3 : Pos} {cls : Value} {d : Option Addr} (C : ExcC X.K D) (hz : Zc cls d oe) (hf : ∃ vs, oe.data = .fields vs) (hd0 : d = none)
    (hg : Gl X "isinstance") (hm : X.mg "isinstance" = none) (hN : X.N[k]? = some en) (hv : Vis X.env.scope en) (hd : (en == ("__debug__" : PySem.Str)) = false) (hcd : (en == ("__classdict__" : PySem.Str)) = false)
    (gR : Gl X R) (mR : X.mg R = some (.ref Ra)) (dR : (R == ("__debug__" : PySem.Str)) = false) (gV : Gl X "ValueError") (mV : X.mg "ValueError" = none)
    (e1 : PySem.W.kitOne X.K (.ref D) (.ref Ra) = some true) (e2 : PySem.W.kitOne X.K (.ref D) (.type "ValueError") = some true)
    (hc : Clss X es cs) (e : PySem.W.kitAny X.K (.ref D) (cs.map Value.ref) = some false) (hl : cs.length ≤ sizeLine) :
    cls = .ref D → PSs (X.suite a ((a, oe) :: pn)) [.If (.Call (.Name "isinstance" p1) [.Name en p2, .Tuple es kk p3] [] p4) [.Return (some (.Constant (.bool false) k2 p5)) q1] [] q2,
      .Return (some (.BoolOp .And [.Call (.Name "isinstance" p6) [.Name en p7, .Name R p8] [] p9, .Call (.Name "isinstance" p10) [.Name en p11, .Name "ValueError" p12] [] p13] p14)) q3] (tHndZ k cs a cls D) := by
  intro hcls
  subst hcls hd0
  have I := ps_if (pos := q2) (pt_truth (isE_tup (a := a) (kk := kk) (p := p1) (p1 := p2) (p2 := p3) (pos := p4) (k := k) C hz hf hg hm hN hv hd hcd hc e hl (pn := pn)) (fun _ => rfl)) (pss_cons (ps_ret (X := X.suite a ((a, oe) :: pn)) (pos := q1) (pe_bl (b := false) (j := k2) (pos := p5))) pss_nil) pss_nil
  have A : PE (X.suite a ((a, oe) :: pn)) (.BoolOp .And [.Call (.Name "isinstance" p6) [.Name en p7, .Name R p8] [] p9, .Call (.Name "isinstance" p10) [.Name en p11, .Name "ValueError" p12] [] p13] p14) (tAndV (tIsE k a true) (tIsE k a true)) :=
    pe_and (isE_glob C hz hf hg hm hN hv hd hcd gR mR dR e1) (pe_one (isE_bltn C hz hf hg hm hN hv hd hcd gV mV e2))
  refine (pss_cons I (pss_cons (ps_ret (X := X.suite a ((a, oe) :: pn)) (pos := q3) A) pss_nil)).imp fun D' σ H ⟨_, h1, h2⟩ => ?_
  exact ⟨h1, fun q hq => ⟨false, rfl, ⟨h1, true, rfl, h1, h2 q hq⟩⟩⟩
def sTryz (k : Nat) (c : PySem.Str) (f : MS) : MS := fun env =>
  match f env with
  | some (.exc c' e) => if c' = c then match e[k]? with
      | some _ => some (.ret (.bool true))
      | none => none
    else none
  | r => r
theorem tryz_ok {D Ra : Addr} {k kk k2 : Nat} {en R c : PySem.Str} {body : List Stmt} {f : MS} {es : List Expr} {cs : List Addr} {np p1 p2 p3 p4 p5 p6 p7 p8 p9 p10 p11 p12 p13 p14 q1 q2 q3 pos pos' : Pos} (C : ExcC X.K D)
    (hst : X.stack = X.env :: X.outer) (hfr : X.env.frame = some X.env.locals) (tk : Takes X W) (hNd : X.N.Nodup)
    (hk : X.N[k]? = some en) (hln : X.env.kindOf en = some .local) (hv : Vis X.env.scope en) (hd : (en == ("__debug__" : PySem.Str)) = false) (hcd : (en == ("__classdict__" : PySem.Str)) = false)
    (gc : Gl X c) (dc : (c == ("__debug__" : PySem.Str)) = false) (mc : X.mg c = some (.ref D)) (hyes : PySem.W.exmOne X.K (.ref D) (.ref D) = some true)
    (hg : Gl X "isinstance") (hm : X.mg "isinstance" = none)
    (gR : Gl X R) (mR : X.mg R = some (.ref Ra)) (dR : (R == ("__debug__" : PySem.Str)) = false) (gV : Gl X "ValueError") (mV : X.mg "ValueError" = none)
    (e1 : PySem.W.kitOne X.K (.ref D) (.ref Ra) = some true) (e2 : PySem.W.kitOne X.K (.ref D) (.type "ValueError") = some true)
    (hc : Clss X es cs) (e : PySem.W.kitAny X.K (.ref D) (cs.map Value.ref) = some false) (hl : cs.length ≤ sizeLine)
    (hbody : ∀ (W' : WX) (pn : List (Addr × Obj)) (xe : Value → Shared → Prop), Takes (X.tr pn xe) W' → PassesOwn (model X.prog X.w) X.A X.env xe → PSs (X.tr pn xe) body (tS X W' f)) :
    PS X (.Try body [.ExceptHandler (some (.Name c np)) (some en) [.If (.Call (.Name "isinstance" p1) [.Name en p2, .Tuple es kk p3] [] p4) [.Return (some (.Constant (.bool false) k2 p5)) q1] [] q2,
      .Return (some (.BoolOp .And [.Call (.Name "isinstance" p6) [.Name en p7, .Name R p8] [] p9, .Call (.Name "isinstance" p10) [.Name en p11, .Name "ValueError" p12] [] p13] p14)) q3] pos'] [] [] pos)
      (tS X W (sTryz k c f)) :=
  (ps_try_as (c := .ref D) (tb := fun W' => tS X W' f) (ts := fun a cls d D' σ H => (cls = .ref D ∧ d = none) ∧ tHndZ k cs a cls D D' σ H) (Wout := W) hst hfr hNd hk hln ⟨gc, dc, .inl mc⟩ tk
    (fun W' pn xe tk' po => hbody W' pn xe tk' po)
    (fun a oe cls d pn hz hfl => pss_when fun h => hndz_ok C hz hfl h.2 hg hm hk hv hd hcd gR mR dR gV mV e1 e2 hc e hl h.1)).imp fun D' σ H ⟨H0, B0, fx, B, env, r, S, hr, post⟩ => by
  unfold sTryz at hr
  cases hf : f env with
  | none => rw [hf] at hr; cases hr
  | some o =>
    rw [hf] at hr
    cases o with
    | nx e1 => cases hr; exact ⟨H0, B0, fx, B, env, _, S, hf, post⟩
    | ret e1 => cases hr; exact ⟨H0, B0, fx, B, env, _, S, hf, post⟩
    | brk e1 => cases hr; exact ⟨H0, B0, fx, B, env, _, S, hf, post⟩
    | cnt e1 => cases hr; exact ⟨H0, B0, fx, B, env, _, S, hf, post⟩
    | exc c' e1 =>
      simp only at hr
      split at hr
      · rename_i hcc
        subst hcc
        split at hr
        · rename_i hu
          cases hr
          refine ⟨H0, B0, fx, B, env, .exc c' e1, S, hf, ?_⟩
          intro σ' H' B' a' s' S' hm'
          rw [mc] at hm'
          cases hm'
          have hlk : k < σ'.length := by
            rw [S'.len]
            exact (List.getElem?_eq_some_iff.mp hu).1
          refine ⟨true, hyes, fun _ b hb => ⟨⟨rfl, rfl⟩, rfl, by rw [List.getElem?_set_self hlk], fun q hq => ?_⟩, fun z => by cases z⟩
          have n1 := none_of_same S'.h.sub hq
          have S2 := S'.h.alloc (o := .tup (cs.map V.ref)) hq
          exact post _ _ _ (s'.trans (same_upd n1)) S2 (.bl true)
        · cases hr
      · cases hr
/-! # try: .., except C: return e -/
def sTryo (c : PySem.Str) (f : MS) (g : M PyData) : MS := fun env =>
  match f env with
  | some (.exc c' e) => if c' = c then match g e with
      | some (.ok d _) => some (.ret d)
      | _ => none
    else none
  | r => r
abbrev wNever : WX := fun _ _ _ _ => False
theorem tryo_ok {D : Addr} {c : PySem.Str} {body : List Stmt} {e : Expr} {f : MS} {g : M PyData} {np q1 pos pos' : Pos}
    (hst : X.stack = X.env :: X.outer) (hfr : X.env.frame = some X.env.locals) (tk : Takes X W)
    (gc : Gl X c) (dc : (c == ("__debug__" : PySem.Str)) = false) (mc : X.mg c = some (.ref D)) (hyes : PySem.W.exmOne X.K (.ref D) (.ref D) = some true)
    (hg : ∀ (a : Addr) (pn : List (Addr × Obj)), PE (X.suite a pn) e (tD X wNever g))
    (hbody : ∀ (W' : WX) (pn : List (Addr × Obj)) (xe : Value → Shared → Prop), Takes (X.tr pn xe) W' → PassesOwn (model X.prog X.w) X.A X.env xe → PSs (X.tr pn xe) body (tS X W' f)) :
    PS X (.Try body [.ExceptHandler (some (.Name c np)) none [.Return (some e) q1] pos'] [] [] pos) (tS X W (sTryo c f g)) :=
  (ps_try_only (c := .ref D) (tb := fun W' => tS X W' f) (ts := fun _ _ _ => tSeq (tS X wNever (sRet g)) tNext) (Wout := W) hst hfr ⟨gc, dc, .inl mc⟩ tk
    (fun W' pn xe tk' po => hbody W' pn xe tk' po)
    (fun a oe cls d pn hz hfl => pss_cons (ret_ok (X := X.suite a ((a, oe) :: pn)) (hg a _)) pss_nil)).imp fun D' σ H ⟨H0, B0, fx, B, env, r, S, hr, post⟩ => by
  unfold sTryo at hr
  cases hf : f env with
  | none => rw [hf] at hr; cases hr
  | some o =>
    rw [hf] at hr
    cases o with
    | nx e1 => cases hr; exact ⟨H0, B0, fx, B, env, _, S, hf, post⟩
    | ret e1 => cases hr; exact ⟨H0, B0, fx, B, env, _, S, hf, post⟩
    | brk e1 => cases hr; exact ⟨H0, B0, fx, B, env, _, S, hf, post⟩
    | cnt e1 => cases hr; exact ⟨H0, B0, fx, B, env, _, S, hf, post⟩
    | exc c' e1 =>
      simp only at hr
      split at hr
      · rename_i hcc
        subst hcc
        split at hr
        · rename_i d e2 hu
          cases hr
          refine ⟨H0, B0, fx, B, env, .exc c' e1, S, hf, ?_⟩
          intro σ' H' B' a' s' S' hm'
          rw [mc] at hm'
          cases hm'
          exact ⟨true, hyes, fun _ b hb => ⟨H0, B0, fx, B', e1, .ret d, S', by unfold sRet; rw [hu]; rfl, fun v H'' B'' s'' S'' r => post v H'' B'' (s'.trans s'') S'' r⟩, fun z => by cases z⟩
        · cases hr
      · cases hr
end
end PyI

namespace PyI
open PySem PySem.Spec L2
/-! # x[k] op= e on a slot's own list -/
section
variable {X : Cx} {W : WX}
def rGetL (K : PySem.W.Frag) : R2 := fun x y H Q => ∃ p xs i v, x = .ref p ∧ y = .int i ∧ SqL K H p xs ∧ atI xs i = some v ∧ Q v H
theorem pget_list : PGet X (rGetL X.K) := by
  intro pins s σ H x y v u Q I rx ry h
  obtain ⟨p, xs, i, z, rfl, rfl, hq, he, q⟩ := h
  cases rx
  obtain ⟨t, rfl⟩ := ry
  obtain ⟨its, r, pl, hz⟩ := I.list hq
  obtain ⟨j, h1, h2, h3, h4, h5⟩ := atI_get he
  obtain ⟨w, ew, rw'⟩ := r.get h2
  have hl := r.length
  have hn := line63
  have fin : EP X pins σ Q w s := ⟨z, H, I, rw', q⟩
  by_cases h0 : 0 ≤ i
  · have hj : i.toNat = j := by
      rw [seqIndex_of h0 h5] at h1
      exact Option.some.inj h1
    exact wpAny_getItem_list pl.isList h0 (by omega) (by rw [hj]; simpa using ew) fin
  · have hj : (i + (its.toArray.size : Int)).toNat = j := by
      rw [seqIndex_neg (by omega) h4] at h1
      rw [List.size_toArray, ← hl]
      exact Option.some.inj h1
    exact wpAny_getItem_list_neg pl.isList (by omega) (by rw [List.size_toArray] <;> omega) (by omega) (by rw [hj]; simpa using ew) fin
def saugK (i : Nat) (op : Operator) (k : Int) (u v : PyData) (e2 : Ev) : Option So := match e2[i]? with
  | some (.ob (.lst ds2)) => match iaugD op u v with
    | some (.old d) => match ixN ds2.length k with
      | some j => some (.nx (e2.set i (.own (ds2.set j d))))
      | none => none
    | _ => none
  | _ => none
def sSaug (i : Nat) (op : Operator) (fk fv : M PyData) : MS := fun env =>
  match env[i]? with
  | some (.ob _) => exK (fk env) fun k e1 => match e1[i]?, k with
    | some (.ob (.lst ds)), .int k => match atI ds k with
      | some u => exK (fv e1) fun v e2 => saugK i op k u v e2
      | none => none
    | _, _ => none
  | _ => none
theorem saug_ok {i : Nat} {x : PySem.Str} {k e : Expr} {op : Operator} {p ps pos : Pos} {fk fv : M PyData} (hN : X.N[i]? = some x) (hv : Vis X.env.scope x) (hd : (x == ("__debug__" : PySem.Str)) = false) (hcd : (x == ("__classdict__" : PySem.Str)) = false)
    (hk : PE X k (tD X W fk)) (he : PE X e (tD X W fv))
    (ha : ∀ ov iv new, augStore k ov iv new = (do holding [new, ov, iv] (setItem ov iv new); release [new, ov, iv] []; pure .next)) : PS X (.AugAssign (.Subscript (.Name x p) k ps) op e pos) (tS X W (sSaug i op fk fv)) :=
  (ps_augS (pe_var hN hv hd hcd) hk pget_list he (pip_of op) set_list ha).imp fun D σ H ⟨H0, B0, fx, B, env, r, S, hr, post⟩ => by
    unfold sSaug at hr
    split at hr
    · rename_i c0 h0
      obtain ⟨p, vs, a1, a2, a3, a4, ra⟩ := S.ob h0
      refine ⟨.ref p, a1, ?_⟩
      rcases exK_some hr with ⟨kd, e1, k1, k2⟩ | ⟨c, e1, k1, rfl⟩
      · refine ⟨H0, B0, fx, B, env, _, S, k1, fun kv H1 B1 s1 S1 r1 => ?_⟩
        split at k2
        · rename_i ds kk h1
          split at k2
          · rename_i u hu
            obtain ⟨p', vs', b1, b2, b3, b4, rb⟩ := S1.own h1
            rw [a1] at b1; cases b1
            cases r1
            obtain ⟨xv, hx1, hx2⟩ := atI_reps rb hu
            refine ⟨p, vs', kk, xv, rfl, rfl, .inl (.inl b2), hx1, ?_⟩
            rcases exK_some k2 with ⟨v, e2, k3, k4⟩ | ⟨c, e2, k3, rfl⟩
            · refine ⟨H0, B0, fx, B1, e1, _, S1, k3, fun yv H2 B2 s2 S2 r2 => ?_⟩
              unfold saugK at k4
              split at k4
              · rename_i ds2 h2
                split at k4
                · rename_i d hd
                  split at k4
                  · rename_i j hj
                    cases k4
                    obtain ⟨p2, vs2, c1, c2, c3, c4, rc⟩ := S2.own h2
                    rw [a1] at c1; cases c1
                    refine ⟨B2, u, v, _, S2.h.sub, .inl (hx2.mono s2), .inl r2, hd, fun z rz => ?_⟩
                    refine ⟨p, vs2, kk, j, rfl, rfl, c2, by rw [rc.length]; exact hj, ?_⟩
                    exact post _ _ B2 (s1.trans s2) (S2.wrSlot h2 a1 (Reps.set rz j rc))
                  · cases k4
                · cases k4
              · cases k4
            · exact ⟨H0, B0, fx, B1, e1, _, S1, k3, fun H' B' a s' S' hm => post σ H' B' a (s1.trans s') S' hm⟩
          · cases k2
        · cases k2
      · exact ⟨H0, B0, fx, B, env, _, S, k1, fun H' B' a s' S' hm => post σ H' B' a s' S' hm⟩
    · cases hr
end
end PyI

namespace PyI
open PySem PySem.Spec L2 PyProof.Rows PySem.W PySem.Calls PyProof.V
/-! # list(zip(xs, ys)) of two lists -/
section
variable {prog : Program} {w : World} {A : Around} {E : Value → Shared → Prop} {s : Shared}
/-- the zip at turn i, while the list S is filled -/
structure ZK (h : Heap) (z TI TO i1 i2 l1 l2 S : Addr) (xs ys : Array Value) (i : Nat) : Prop where
  pTI : PySem.IsPair h TI (.ref i1) (.ref i2)
  p1 : h.IsListIter i1 l1 i
  p2 : h.IsListIter i2 l2 i
  q1 : h.IsList l1 xs
  q2 : h.IsList l2 ys
  pz : (PySem.IsZip h z TI TO .none ∧ ∃ a b, PySem.IsPair h TO a b) ∨ ∃ T f oT, IsZipHeld h z TI TO T f ∧ h.get? T = some oT ∧ T ≠ z ∧ T ≠ i1 ∧ T ≠ i2 ∧ T ≠ S
theorem ZK.keep {h h' : Heap} {z TI TO i1 i2 l1 l2 S : Addr} {xs ys : Array Value} {i : Nat} (k : ZK h z TI TO i1 i2 l1 l2 S xs ys i) (hS : S ∉ [z, TI, TO, i1, i2, l1, l2]) (hk : ∀ b o, b ≠ S → h.get? b = some o → h'.get? b = some o) : ZK h' z TI TO i1 i2 l1 l2 S xs ys i := by
  simp only [List.mem_cons, List.not_mem_nil, or_false, not_or] at hS
  obtain ⟨dz, dTI, dTO, di1, di2, dl1, dl2⟩ := hS
  refine ⟨hk _ _ (Ne.symm dTI) k.pTI, k.p1.at fun o e => hk _ o (Ne.symm di1) e, k.p2.at fun o e => hk _ o (Ne.symm di2) e, k.q1.at fun o e => hk _ o (Ne.symm dl1) e, k.q2.at fun o e => hk _ o (Ne.symm dl2) e, ?_⟩
  rcases k.pz with ⟨hz, a, b, hTO⟩ | ⟨T, f, oT, hz, hT, r1, r2, r3, r4⟩
  · exact .inl ⟨hk _ _ (Ne.symm dz) hz, a, b, hk _ _ (Ne.symm dTO) hTO⟩
  · exact .inr ⟨T, f, oT, hk _ _ (Ne.symm dz) hz, hk _ _ r4 hT, r1, r2, r3, r4⟩
theorem zil_item {z TI TO i1 i2 l1 l2 S : Addr} {xs ys : Array Value} {i : Nat} {Q : Option Value → Shared → Prop} (D : PySem.ZipApart z TI TO i1 i2 l1 l2) (k : ZK s.heap z TI TO i1 i2 l1 l2 S xs ys i) (hS : S < s.heap.objs.size) (hx : i < xs.size) (hy : i < ys.size)
    (hQ : ∀ h', ZK h' z TI TO i1 i2 l1 l2 S xs ys (i + 1) → h'.get? s.heap.objs.size = some { cls := .type "tuple", data := .seq #[xs[i], ys[i]] } → h'.objs.size = s.heap.objs.size + 1 →
      (∀ b o, b ∉ [z, TO, i1, i2] → s.heap.get? b = some o → h'.get? b = some o) → Q (some (.ref s.heap.objs.size)) { s with heap := h' }) :
    wpAny (model prog w) A (pyNext (.ref z)) Q E s := by
  have ex := Array.getElem?_eq_getElem hx
  have ey := Array.getElem?_eq_getElem hy
  have lt : ∀ {c o}, s.heap.get? c = some o → s.heap.objs.size ≠ c := fun e => Nat.ne_of_gt (Heap.lt_size e)
  have n1 : s.heap.objs.size ≠ i1 := let ⟨_, e, _⟩ := k.p1; lt e
  have n2 : s.heap.objs.size ≠ i2 := let ⟨_, e, _⟩ := k.p2; lt e
  rcases k.pz with ⟨hz, a, b, hTO⟩ | ⟨T, f, oT, hz, hT, r1, r2, r3, r4⟩
  · refine PySem.wpAny_pyNext_zip_item D hz k.pTI hTO k.p1 k.p2 k.q1 k.q2 ex ey fun h' a1 a2 a3 a4 a5 a6 hk => ?_
    exact hQ h' ⟨hk _ _ D.TIz D.TITO D.TIi1 D.TIi2 k.pTI, a3, a4, k.q1.at fun o e => hk _ o D.l1z D.l1TO D.l1i1 D.l1i2 e, k.q2.at fun o e => hk _ o D.l2z D.l2TO D.l2i1 D.l2i2 e,
      .inr ⟨s.heap.objs.size, false, _, a1, a5, lt hz, n1, n2, Nat.ne_of_gt hS⟩⟩ a5 a6
      fun c o hc e => hk c o (fun x => hc (by simp [x])) (fun x => hc (by simp [x])) (fun x => hc (by simp [x])) (fun x => hc (by simp [x])) e
  · refine wpAny_pyNext_zip_item_held D hz hT k.pTI k.p1 k.p2 k.q1 k.q2 ex ey fun h' a1 a3 a4 a5 a6 hk => ?_
    exact hQ h' ⟨hk _ _ D.TIz D.TIi1 D.TIi2 k.pTI, a3, a4, k.q1.at fun o e => hk _ o D.l1z D.l1i1 D.l1i2 e, k.q2.at fun o e => hk _ o D.l2z D.l2i1 D.l2i2 e,
      .inr ⟨T, true, oT, a1, hk _ _ r1 r2 r3 hT, r1, r2, r3, r4⟩⟩ a5 a6
      fun c o hc e => hk c o (fun x => hc (by simp [x])) (fun x => hc (by simp [x])) (fun x => hc (by simp [x])) e
theorem zil_done {z TI TO i1 i2 l1 l2 S : Addr} {xs ys : Array Value} {i : Nat} {Q : Option Value → Shared → Prop} (hh : A.handled = none) (D : PySem.ZipApart z TI TO i1 i2 l1 l2) (k : ZK s.heap z TI TO i1 i2 l1 l2 S xs ys i) (he : xs.size ≤ i ∨ ys.size ≤ i)
    (hQ : ∀ h', (∀ b o, b ∉ [z, TO, i1, i2] → s.heap.get? b = some o → h'.get? b = some o) → Q none { s with heap := h' }) : wpAny (model prog w) A (pyNext (.ref z)) Q E s := by
  have hend : xs[i]? = none ∨ ys[i]? = none := he.elim (fun h => .inl (Array.getElem?_eq_none h)) fun h => .inr (Array.getElem?_eq_none h)
  rcases k.pz with ⟨hz, a, b, hTO⟩ | ⟨T, f, oT, hz, hT, r1, r2, r3, r4⟩
  · exact PySem.wpAny_pyNext_zip_end hh D hz k.pTI hTO k.p1 k.p2 k.q1 k.q2 hend fun h' hk => hQ h' fun c o hc e => hk c o (fun x => hc (by simp [x])) (fun x => hc (by simp [x])) (fun x => hc (by simp [x])) (fun x => hc (by simp [x])) e
  · exact wpAny_pyNext_zip_end_held hh D hz hT k.pTI k.p1 k.p2 k.q1 k.q2 hend fun h' hk => hQ h' fun c o hc e => hk c o (fun x => hc (by simp [x])) (fun x => hc (by simp [x])) (fun x => hc (by simp [x])) e
end
structure ZilG (xs ys : Array Value) (lo : Addr) (h : Heap) (as : List Addr) : Prop where
  rise : as.Pairwise (· < ·)
  above : ∀ a ∈ as, lo < a
  pairs : ∀ (j : Nat) (a : Addr), as[j]? = some a → ∃ (hx : j < xs.size) (hy : j < ys.size), h.get? a = some { cls := .type "tuple", data := .seq #[xs[j], ys[j]] }
theorem ZilG.there {xs ys : Array Value} {lo : Addr} {h : Heap} {as : List Addr} (g : ZilG xs ys lo h as) {a : Addr} (ha : a ∈ as) : a < h.objs.size := by
  obtain ⟨j, hj⟩ := List.mem_iff_getElem?.mp ha
  obtain ⟨_, _, e⟩ := g.pairs j a hj
  exact Heap.lt_size e
section
variable {prog : Program} {w : World} {A : Around} {s : Shared} {R : Result → Shared → Prop} {xs ys : Array Value} {z TI TO i1 i2 l1 l2 : Addr}
theorem zil_loop {S : Addr} (hh : A.handled = none) (D : PySem.ZipApart z TI TO i1 i2 l1 l2) (hS0 : ∀ b ∈ [z, TI, TO, i1, i2, l1, l2], b < S) (hn : min xs.size ys.size ≤ sizeLine) (res : Value) {h₁ : Heap}
    (hR : ∀ h' tk acc c as, (∀ b o, b ≠ S → b ∉ [z, TO, i1, i2] → h₁.get? b = some o → h'.get? b = some o) → h'.get? S = some { cls := .type "list", dict := none, data := .seq acc c, slots := #[] } → as.length = min xs.size ys.size → ZilG xs ys S h' as →
      acc.toList = as.map Value.ref → R (.ok (.ret res)) { s with heap := h', toks := tk }) :
    ∀ (k i : Nat) (h : Heap) (tk c : Nat) (acc : Array Value) (as : List Addr), min xs.size ys.size - i = k → i ≤ min xs.size ys.size → ZK h z TI TO i1 i2 l1 l2 S xs ys i → (∀ b o, b ≠ S → b ∉ [z, TO, i1, i2] → h₁.get? b = some o → h.get? b = some o) →
      h.get? S = some { cls := .type "list", dict := none, data := .seq acc c, slots := #[] } → acc.toList = as.map Value.ref → as.length = i → ZilG xs ys S h as →
      codeAny (model prog w) A (.builtin "list.extend.loop" ⟨[.ref S, .ref z, res], []⟩) R { s with heap := h, toks := tk } := by
  have hS7 : S ∉ [z, TI, TO, i1, i2, l1, l2] := fun h => Nat.lt_irrefl _ (hS0 S h)
  have sub4 : ∀ b ∈ [z, TO, i1, i2], b ∈ [z, TI, TO, i1, i2, l1, l2] := fun b hb => by simp at hb ⊢; rcases hb with h | h | h | h <;> simp [h]
  have hS4 : S ∉ [z, TO, i1, i2] := fun h => hS7 (sub4 S h)
  have ab4 : ∀ a, S < a → a ∉ [z, TO, i1, i2] := fun a ha hm => Nat.lt_irrefl _ (Nat.lt_trans ha (hS0 a (sub4 a hm)))
  intro k
  induction k with
  | zero =>
    intro i h tk c acc as hk hi hst hkeep hS hacc hal hG
    refine codeAny_builtin PySem.F.entry_extend_loop ?_
    rw [Around.under_plainId PySem.F.plain_extend_loop _]
    show wpAny _ A.in1 (pyNext (.ref z) >>= _) _ _ _
    refine wpAny_bind (zil_done (s := { s with heap := h, toks := tk }) (A := A.in1) hh D hst (by omega) fun h' he => ?_)
    refine wpAny_pure (hR h' tk acc c as (fun b o h1 h2 e => he b o h2 (hkeep b o h1 h2 e)) (he S _ hS4 hS) (by omega) ⟨hG.rise, hG.above, fun j a hj => ?_⟩ hacc)
    obtain ⟨hx, hy, e3⟩ := hG.pairs j a hj
    exact ⟨hx, hy, he a _ (ab4 a (hG.above a (List.mem_of_getElem? hj))) e3⟩
  | succ k ih =>
    intro i h tk c acc as hk hi hst hkeep hS hacc hal hG
    have hx : i < xs.size := by omega
    have hy : i < ys.size := by omega
    have hsz : acc.size = i := by rw [← Array.length_toList, hacc, List.length_map, hal]
    refine codeAny_builtin PySem.F.entry_extend_loop ?_
    rw [Around.under_plainId PySem.F.plain_extend_loop _]
    show wpAny _ A.in1 (pyNext (.ref z) >>= _) _ _ _
    refine wpAny_bind (zil_item (s := { s with heap := h, toks := tk }) (S := S) D hst (Heap.lt_size hS) hx hy fun h' hst' ht hz hkp => ?_)
    dsimp only at ht hz hkp ⊢
    have hS' := hkp S _ hS4 hS
    have up : ∀ b o, b ≠ S → h'.get? b = some o → (h'.update S (Obj.mapSeq (·.push (Value.ref h.objs.size)))).get? b = some o := fun b o hb e => (Heap.get?_update_other _ _ (Ne.symm hb)).trans e
    have hSl : S < h.objs.size := Heap.lt_size hS
    show wpAny _ A.in1 (updateSeq S (·.push (Value.ref h.objs.size)) >>= _) _ _ _
    refine wpAny_bind ?_
    refine wpAny_updateSeq hS' rfl (wpAny_pure ⟨plainId_quiet PySem.F.plain_extend_loop _, ih (i + 1) _ tk _ (acc.push (Value.ref h.objs.size)) (as ++ [h.objs.size]) (by omega) (by omega) (hst'.keep hS7 up)
      (fun b o h1 h2 e => up b o h1 (hkp b o h2 (hkeep b o h1 h2 e))) (Heap.get?_update_self _ hS' rfl) (by rw [Array.toList_push, hacc, List.map_append]; rfl) (by rw [List.length_append, hal]; rfl) ⟨?_, ?_, ?_⟩⟩) (by rw [hsz]; omega) (by show (acc.push (Value.ref h.objs.size)).size ≤ sizeLine + 1; rw [Array.size_push, hsz]; omega)
    · refine List.pairwise_append.mpr ⟨hG.rise, List.pairwise_singleton _ _, fun a ha b hb => ?_⟩
      rw [List.mem_singleton.mp hb]
      exact hG.there ha
    · intro a ha
      rcases List.mem_append.mp ha with ha | ha
      · exact hG.above a ha
      · rw [List.mem_singleton.mp ha]; exact hSl
    · intro j b hj
      rcases Nat.lt_trichotomy j as.length with h1 | h1 | h1
      · rw [List.getElem?_append_left h1] at hj
        obtain ⟨q1, q2, e3⟩ := hG.pairs j b hj
        have hb := hG.above b (List.mem_of_getElem? hj)
        exact ⟨q1, q2, up b _ (Nat.ne_of_gt hb) (hkp b _ (ab4 b hb) e3)⟩
      · subst h1
        have hb : h.objs.size = b := by simpa using hj
        subst hb
        exact ⟨by omega, by omega, by subst hal; exact up _ _ (Nat.ne_of_gt hSl) ht⟩
      · have hnone : (as ++ [h.objs.size])[j]? = none := List.getElem?_eq_none (by rw [List.length_append, List.length_singleton]; omega)
        rw [hnone] at hj; cases hj
end
theorem nolen_zip : typeLookup (.type "zip") "__len__" = pure none := by rw [typeLookup_type, builtinLookup_eq_fast]; kernel_rfl
theorem nohint_zip : typeLookup (.type "zip") "__length_hint__" = pure none := by rw [typeLookup_type, builtinLookup_eq_fast]; kernel_rfl
section
variable {prog : Program} {w : World} {A : Around} {E : Value → Shared → Prop} {s : Shared} {z TI TO i1 i2 l1 l2 : Addr} {xs ys : Array Value}
theorem zil_extend {R : Result → Shared → Prop} (hh : A.handled = none) (D : PySem.ZipApart z TI TO i1 i2 l1 l2) (S : Addr) (hS0 : ∀ b ∈ [z, TI, TO, i1, i2, l1, l2], b < S) (k : ZK s.heap z TI TO i1 i2 l1 l2 S xs ys 0) (hz0 : PySem.IsZip s.heap z TI TO .none) (res : Value) (c₀ : Nat) (hS : s.heap.get? S = some { cls := .type "list", data := .seq #[] c₀ })
    (hR : ∀ h' tk acc c as, (∀ b o, b ≠ S → b ∉ [z, TO, i1, i2] → s.heap.get? b = some o → h'.get? b = some o) → h'.get? S = some { cls := .type "list", dict := none, data := .seq acc c, slots := #[] } → as.length = min xs.size ys.size → ZilG xs ys S h' as →
      acc.toList = as.map Value.ref → R (.ok (.ret res)) { s with heap := h', toks := tk }) (hn : min xs.size ys.size ≤ sizeLine) :
    wpAny (model prog w) A.in1 (Builtin.List.listExtendWith (.ref S) (.ref z) res)
      (fun fin s' => match fin with | .done f => R (.ok f) s' | .again c' => c'.quiet = true ∧ codeAny (model prog w) A c' R s') (fun e s' => R (.error e) s') s := by
  have hS7 : S ∉ [z, TI, TO, i1, i2, l1, l2] := fun h => Nat.lt_irrefl _ (hS0 S h)
  have hzS : z ≠ S := fun e => hS7 (by simp [e])
  have key : ∀ (h : Heap) (c₁ tk : Nat), (∀ b o, b ≠ S → s.heap.get? b = some o → h.get? b = some o) →
      h.get? S = some { cls := .type "list", data := .seq #[] c₁ } → codeAny (model prog w) A (.builtin "list.extend.loop" ⟨[.ref S, .ref z, res], []⟩) R { s with heap := h, toks := tk } := by
    intro h c₁ tk hk hS₁
    exact zil_loop (s := s) (h₁ := s.heap) hh D hS0 hn res hR _ 0 h tk c₁ #[] [] rfl (Nat.zero_le _) (k.keep hS7 hk) (fun b o hb _ e => hk b o hb e) hS₁ rfl rfl
      ⟨List.Pairwise.nil, (fun _ ha => nomatch ha), (fun j a hj => by simp at hj)⟩
  have hT : s.TypeIs (.ref z) "zip" := ⟨_, hz0, rfl⟩
  unfold Builtin.List.listExtendWith
  refine wpAny_bind (wpAny_typeOf (T := "zip") hT ?_)
  have h1 : Builtin.List.listSameRef (.ref S) (.ref z) = false := by simp [Builtin.List.listSameRef, Ne.symm hzS]
  have h2 : (Value.type "zip" == Value.type "list") = false := by decide
  have h3 : (Value.type "zip" == Value.type "tuple") = false := by decide
  simp only [h1, h2, h3, Bool.or_false, Bool.false_eq_true, if_false]
  refine wpAny_bind (PySem.wpAny_pyIter_zip hz0 ?_)
  refine wpAny_bind (wpAny_holding ?_)
  unfold Builtin.List.listLengthHint
  refine wpAny_bind (wpAny_specialOf hT nolen_zip ?_)
  show wpAny _ A.in1 (specialOf (Value.ref z) (Str.ofString "__length_hint__") >>= _) _ _ _
  refine wpAny_bind (wpAny_specialOf hT nohint_zip ?_)
  refine wpAny_pure ?_
  show wpAny _ A.in1 (rule "list.extend.makes-room" >>= fun _ => Builtin.List.listTouch (.ref S) >>= fun _ =>
    again (.builtin "list.extend.loop" ⟨[.ref S, .ref z, res], []⟩)) _ _ _
  refine wpAny_bind (wpAny_rule ?_)
  refine wpAny_bind ?_
  show wpAny _ _ (updateSeq S (·.push .none) >>= fun _ => updateSeq S (·.pop)) _ _ _
  refine wpAny_bind (wpAny_updateSeq hS rfl ?_)
  have hS₂ := Heap.get?_update_self (Obj.mapSeq (·.push Value.none)) hS rfl
  refine wpAny_updateSeq (hz := by seq_fits) hS₂ rfl ?_
  have hS₃ := Heap.get?_update_self (Obj.mapSeq (·.pop)) hS₂ rfl
  refine wpAny_pure ⟨plainId_quiet PySem.F.plain_extend_loop _, key _ _ _ (fun b o hb e => ?_) hS₃⟩
  exact (Heap.get?_update_other _ _ (Ne.symm hb)).trans ((Heap.get?_update_other _ _ (Ne.symm hb)).trans e)
theorem zil_init {R : Result → Shared → Prop} (hh : A.handled = none) (D : PySem.ZipApart z TI TO i1 i2 l1 l2) (S : Addr) (hS0 : ∀ b ∈ [z, TI, TO, i1, i2, l1, l2], b < S) (k : ZK s.heap z TI TO i1 i2 l1 l2 S xs ys 0) (hz0 : PySem.IsZip s.heap z TI TO .none) (hS : s.heap.get? S = some { cls := .type "list", data := .seq #[] })
    (hR : ∀ h' tk acc c as, (∀ b o, b ≠ S → b ∉ [z, TO, i1, i2] → s.heap.get? b = some o → h'.get? b = some o) → h'.get? S = some { cls := .type "list", dict := none, data := .seq acc c, slots := #[] } → as.length = min xs.size ys.size → ZilG xs ys S h' as →
      acc.toList = as.map Value.ref → R (.ok (.ret .none)) { s with heap := h', toks := tk }) (hn : min xs.size ys.size ≤ sizeLine) :
    wpAny (model prog w) A.in1 (Builtin.«list.__init__» ⟨[.ref S, .ref z], []⟩)
      (fun fin s' => match fin with | .done f => R (.ok f) s' | .again c' => c'.quiet = true ∧ codeAny (model prog w) A c' R s') (fun e s' => R (.error e) s') s := by
  have hS7 : S ∉ [z, TI, TO, i1, i2, l1, l2] := fun h => Nat.lt_irrefl _ (hS0 S h)
  have hzS : z ≠ S := fun e => hS7 (by simp [e])
  show wpAny _ _ (do let old ← Builtin.List.listItems (.ref S); Builtin.List.listUpdate (.ref S) (fun _ => #[]); letGo old.toList.reverse; Builtin.List.listExtendWith (.ref S) (.ref z) .none) _ _ s
  refine wpAny_bind ?_
  unfold Builtin.List.listItems
  refine wpAny_bind (wpAny_seqItems hS rfl (wpAny_pure ?_))
  show wpAny _ _ (updateSeq S (fun _ => #[]) >>= fun _ => letGo (#[] : Array Value).toList.reverse >>= fun _ => Builtin.List.listExtendWith (.ref S) (.ref z) .none) _ _ s
  refine wpAny_bind (wpAny_updateSeq hS rfl ?_)
  have hS₂ := Heap.get?_update_self (Obj.mapSeq (fun _ => (#[] : Array Value))) hS rfl
  have oth : ∀ b o, b ≠ S → s.heap.get? b = some o → (s.heap.update S (Obj.mapSeq (fun _ => (#[] : Array Value)))).get? b = some o :=
    fun b o hb e => (Heap.get?_update_other _ _ (Ne.symm hb)).trans e
  refine wpAny_bind (wpAny_letGo ?_)
  refine zil_extend hh D S hS0 (k.keep hS7 oth) (oth _ _ hzS hz0) .none _ hS₂ (fun h' tk acc c as hk hS' hl hG hacc => ?_) hn
  exact hR h' tk acc c as (fun b o hb hb4 e => hk b o hb hb4 (oth b o hb e)) hS' hl hG hacc
theorem zil_call {Q : Value → Shared → Prop} (hh : A.handled = none) (D : PySem.ZipApart z TI TO i1 i2 l1 l2) (hin : ∀ b ∈ [z, TI, TO, i1, i2, l1, l2], b < s.heap.objs.size) (hz0 : PySem.IsZip s.heap z TI TO .none) (hTI : PySem.IsPair s.heap TI (.ref i1) (.ref i2)) (hTO : ∃ a b, PySem.IsPair s.heap TO a b)
    (h1 : s.heap.IsListIter i1 l1 0) (h2 : s.heap.IsListIter i2 l2 0) (hl1 : s.heap.IsList l1 xs) (hl2 : s.heap.IsList l2 ys) (hn : min xs.size ys.size ≤ sizeLine)
    (hQ : ∀ h' tk acc c as, (∀ b o, b ∉ [z, TO, i1, i2] → s.heap.get? b = some o → h'.get? b = some o) → h'.get? s.heap.objs.size = some { cls := .type "list", dict := none, data := .seq acc c, slots := #[] } → as.length = min xs.size ys.size → ZilG xs ys s.heap.objs.size h' as →
      acc.toList = as.map Value.ref → Q (.ref s.heap.objs.size) { s with heap := h', toks := tk }) :
    wpAny (model prog w) A (call (.type "list") [.ref z]) Q E s := by
  refine callType_codes (Q₁ := fun obj s₁ => obj = .ref s.heap.objs.size ∧ s₁ = { s with heap := s.heap.push { cls := .type "list", data := .seq #[] } }) PySem.F.called_list (PySem.F.typeCall_list_1 _) PySem.F.entry_list_init
    (code_list_new _ ⟨rfl, rfl⟩) fun obj s₁ h₁ => ?_
  obtain ⟨rfl, rfl⟩ := h₁
  have hS : (s.heap.push { cls := .type "list", data := .seq #[] }).get? s.heap.objs.size = some { cls := .type "list", data := .seq #[] } := Heap.get?_push_size _ rfl
  have up : ∀ b o, s.heap.get? b = some o → (s.heap.push { cls := .type "list", data := .seq #[] }).get? b = some o := fun b o e => Heap.get?_push_of_some _ e
  obtain ⟨a0, b0, hTO⟩ := hTO
  refine ⟨⟨_, hS, rfl⟩, PySem.F.args_list_init_2 _ _, zil_init (A := A.in1) hh D _ hin ⟨up _ _ hTI, h1.at fun o e => up _ o e, h2.at fun o e => up _ o e, hl1.at fun o e => up _ o e, hl2.at fun o e => up _ o e, .inl ⟨up _ _ hz0, a0, b0, up _ _ hTO⟩⟩ (up _ _ hz0) hS (fun h' tk acc c as hk hS' hl hG hacc => ?_) hn⟩
  exact ⟨rfl, hQ h' tk acc c as (fun b o hb e => hk b o (Nat.ne_of_lt (Heap.lt_size e)) hb (up b o e)) hS' hl hG hacc⟩
end
/-- a pair's object -/
def pairO (u : Value × Value) : Obj := { cls := .type "tuple", data := .seq #[u.1, u.2] }
abbrev PZ := (Value × Value) × V × V
def pzO (p : PZ) : HO := .frz (pairO p.1) (.tup [p.2.1, p.2.2])
def putZ : Hp → List Addr → List PZ → Hp
  | H, a :: as, p :: ps => putZ (upd H a (pzO p)) as ps
  | H, _, _ => H
theorem putZ_off {b : Addr} : ∀ (as : List Addr) (ps : List PZ) (H : Hp), b ∉ as → putZ H as ps b = H b
  | [], _, _, _ => rfl
  | _ :: _, [], _, _ => rfl
  | a :: as, p :: ps, H, h => by
    show putZ (upd H a (pzO p)) as ps b = H b
    rw [putZ_off as ps _ (fun z => h (List.mem_cons_of_mem _ z)), upd_ne (fun z => h (by rw [z]; exact List.mem_cons_self))]
theorem putZ_at : ∀ (as : List Addr) (ps : List PZ) (H : Hp), as.length = ps.length → as.Nodup → Paired (fun (t : Addr) (p : PZ) => putZ H as ps t = some (pzO p)) as ps
  | [], [], _, _, _ => .nil
  | [], _ :: _, _, h, _ => by cases h
  | _ :: _, [], _, h, _ => by cases h
  | a :: as, p :: ps, H, h, hn => by
    have hn' := List.nodup_cons.mp hn
    have ih := putZ_at as ps (upd H a (pzO p)) (Nat.succ.inj h) hn'.2
    refine .cons ?_ ih
    show putZ (upd H a (pzO p)) as ps a = some (pzO p)
    rw [putZ_off as ps _ hn'.1, upd_same]
theorem zip_laid {X : Cx} {pins : List (Addr × Obj)} {σ : L2.St} {H : Hp} {s : Shared} {h' : Heap} {tk : Nat} {xv yv : List V} {xu yu : List Value} {acc : Array Value} {c : Nat} {as : List Addr} {S : Addr} (I : Inv X pins σ H s) (hSz : s.heap.objs.size ≤ S) (rx : Vals xv xu) (ry : Vals yv yu) (hz : min xu.length yu.length ≤ sizeLine)
    (hk : ∀ b o, s.heap.get? b = some o → h'.get? b = some o) (hS : h'.get? S = some { cls := .type "list", dict := none, data := .seq acc c, slots := #[] }) (hl : as.length = min xu.length yu.length) (hG : ZilG xu.toArray yu.toArray S h' as) (hacc : acc.toList = as.map Value.ref) :
    ∃ H' : Hp, (∀ b o, H b = some o → H' b = some o) ∧ H S = none ∧ (∀ t ∈ as, H t = none) ∧ as.Nodup ∧ S ∉ as ∧ H' S = some (.lst (as.map V.ref)) ∧ Paired (fun (t : Addr) (q : PZ) => H' t = some (pzO q)) as ((xu.zip yu).zip (xv.zip yv)) ∧ (∀ b, b ∉ as → b ≠ S → H' b = H b) ∧ Inv X pins σ H' { s with heap := h', toks := tk } := by
  have lx : xv.length = xu.length := rx.length
  have ly : yv.length = yu.length := ry.length
  have hSn : S ∉ as := fun z => Nat.lt_irrefl _ (hG.above _ z)
  have nd : as.Nodup := List.Pairwise.imp (fun {a b} (h : a < b) => Nat.ne_of_lt h) hG.rise
  have new : ∀ t ∈ as, H t = none := fun t ht => I.hok.fresh (Nat.le_trans hSz (Nat.le_of_lt (hG.above t ht)))
  have newS : H S = none := I.hok.fresh hSz
  have atP := putZ_at as ((xu.zip yu).zip (xv.zip yv)) (upd H S (.lst (as.map V.ref))) (by rw [List.length_zip, List.length_zip, List.length_zip]; omega) nd
  have off : ∀ b, b ∉ as → b ≠ S → putZ (upd H S (.lst (as.map V.ref))) as ((xu.zip yu).zip (xv.zip yv)) b = H b := fun b h1 h2 => by rw [putZ_off as _ _ h1, upd_ne h2]
  have low : ∀ b o, s.heap.get? b = some o → b ∉ as ∧ b ≠ S := fun b o e => ⟨fun z => absurd (Heap.lt_size e) (Nat.not_lt.mpr (Nat.le_trans hSz (Nat.le_of_lt (hG.above b z)))), Nat.ne_of_lt (Nat.lt_of_lt_of_le (Heap.lt_size e) hSz)⟩
  have kp : ∀ b u, H b = some u → (putZ (upd H S (.lst (as.map V.ref))) as ((xu.zip yu).zip (xv.zip yv))) b = some u := fun b u e => by
    rw [off b (fun z => by rw [new b z] at e; cases e) (fun z => by rw [z, newS] at e; cases e)]
    exact e
  have eS : putZ (upd H S (.lst (as.map V.ref))) as ((xu.zip yu).zip (xv.zip yv)) S = some (.lst (as.map V.ref)) := by rw [putZ_off as _ _ hSn, upd_same]
  refine ⟨putZ (upd H S (.lst (as.map V.ref))) as ((xu.zip yu).zip (xv.zip yv)), kp, newS, new, nd, hSn, eS, atP, off, ?_⟩
  refine I.call' (ch := []) rfl ⟨fun b o q _ _ _ => hk b o q, fun b o q _ _ _ => ⟨o.slots, hk b o q⟩, fun b o q n _ => ?_, fun b o q _ => ⟨o, hk b o q⟩, fun b xs q => kp b _ q, fun b o u q => kp b _ q, fun b ps q => ⟨#[], by rw [kp b _ q]; simp⟩⟩ (fun b u q => ?_) I.bare fun b z => by simp at z
  · obtain ⟨z1, z2⟩ := low b o q
    rw [off b z1 z2]
    exact n
  · by_cases hb : b ∈ as
    · obtain ⟨j, pk, e1, e2, e3⟩ := LiI.paired_ix atP hb
      rw [e3] at q
      cases q
      obtain ⟨hx, hy, f3⟩ := hG.pairs j b e1
      have e5 := List.getElem?_zip_eq_some.mp e2
      have e4 := List.getElem?_zip_eq_some.mp e5.2
      have e6 := List.getElem?_zip_eq_some.mp e5.1
      obtain ⟨u1, g1, r1⟩ := rx.get e4.1
      obtain ⟨u2, g2, r2⟩ := ry.get e4.2
      have v1 : pk.1.1 = u1 := Option.some.inj (e6.1.symm.trans g1)
      have v2 : pk.1.2 = u2 := Option.some.inj (e6.2.symm.trans g2)
      have w1 : xu.toArray[j] = u1 := by
        rw [List.getElem_toArray]
        rw [List.getElem?_eq_getElem (by simpa using hx)] at g1
        exact Option.some.inj g1
      have w2 : yu.toArray[j] = u2 := by
        rw [List.getElem_toArray]
        rw [List.getElem?_eq_getElem (by simpa using hy)] at g2
        exact Option.some.inj g2
      rw [w1, w2] at f3
      have f4 : h'.get? b = some (pairO pk.1) := by rw [f3]; unfold pairO; rw [v1, v2]
      exact ⟨f4, by show 2 ≤ sizeLine; decide, [u1, u2], .cons r1 (.cons r2 .nil), ⟨_, f3, rfl, _, rfl⟩⟩
    · by_cases hb2 : b = S
      · rw [hb2] at q ⊢
        rw [eS] at q
        cases q
        refine ⟨by rw [List.length_map]; omega, acc.toList, c, by rw [hacc]; exact LiI.vals_refs as, ?_⟩
        rw [Array.toArray_toList]
        exact hS
      · rw [off b hb hb2] at q
        exact (I.hok b u q).stay (fun d v _ y => hk d v y) (fun d y => kp d _ y) fun d xs y => kp d _ y
def tListZip (K : PySem.W.Frag) (ta : TA) : TE := fun σ H Q => ta σ H fun vs H1 => ∃ a b xs ys, vs = [.ref a, .ref b] ∧ SqL K H1 a xs ∧ SqL K H1 b ys ∧
  ∀ (us : List (Value × Value)) (H' : Hp) (p : Addr) (ts : List Addr), (∀ b o, H1 b = some o → H' b = some o) → H1 p = none → (∀ t ∈ ts, H1 t = none) → ts.Nodup → p ∉ ts → H' p = some (.lst (ts.map V.ref)) → us.length = (xs.zip ys).length → Paired (fun (t : Addr) (q : PZ) => H' t = some (pzO q)) ts (us.zip (xs.zip ys)) → (∀ b, b ∉ ts → b ≠ p → H' b = H1 b) → Q (.ref p) H'
/-- list(zip(e, e2)) -/
theorem pe_listZip {X : Cx} {e e2 : Expr} {ta : TA} {p p2 q1 pos : Pos} (hc : X.calm = true) (ha : PA X [e, e2] ta) (hg : Gl X "list") (hm : X.mg "list" = none) (hv : bootBuiltins "list" = some (.type "list")) (hgz : Gl X "zip") (hmz : X.mg "zip" = none)
    (hs2 : starEach [e, e2] X.env = (false, eval e X.env) :: starEach [e2] X.env) (hpl : (backTo q1 (starEach [e2] X.env)).any (·.1) = false)
    (hs : starEach [.Call (.Name "zip" p2) [e, e2] [] q1] X.env = (false, eval (.Call (.Name "zip" p2) [e, e2] [] q1) X.env) :: starEach [] X.env := by rfl) :
    PE X (.Call (.Name "list" p) [.Call (.Name "zip" p2) [e, e2] [] q1] [] pos) (tListZip X.K ta) := by
  refine ⟨fun pins s σ H Q I hq => ?_⟩
  refine wpAny_Call_Name_kw (ld_blt I hg hm hv ?_)
  refine PyProof.Rows.callWith_type1 ?_ hs rfl
  rw [hs]
  show wpAny _ _ (spliced ((false, eval (.Call (.Name "zip" p2) [e, e2] [] q1) X.env) :: backTo pos (starEach [] X.env))) _ _ s
  refine Calls.spliced_cons ?_
  refine Call_ (ld_blt I hgz hmz PyProof.Rows.boot_zip (PyProof.Rows.callWith_type1 (thn (ha.run q1 pins s σ H _ I hq) fun us s1 ⟨vs, H1, I1, r1, qq⟩ => ?_) hs2 hpl))
  obtain ⟨a, b, xs, ys, ex, hqx, hqy, q⟩ := qq
  subst ex
  cases r1 with
  | cons r rr =>
    cases rr with
    | cons r' rr =>
      cases rr
      cases r
      cases r'
      obtain ⟨its, rv, pl1, hz1⟩ := I1.list hqx
      obtain ⟨its2, rv2, pl2, hz2⟩ := I1.list hqy
      have la : a < s1.heap.objs.size := pl1.lt
      have lb : b < s1.heap.objs.size := pl2.lt
      refine call_zip_2 pl1.isList pl2.isList fun h' hz hTI hTO h1 h2 hsz hk => ?_
      refine Calls.spliced_nil ?_
      have hmin : min its.toArray.size its2.toArray.size ≤ sizeLine := by
        have := rv.length
        rw [List.size_toArray]
        omega
      refine zil_call (s := { s1 with heap := h' }) (I1.ok.hd hc) (PySem.W.ktu_apart s1.heap.objs.size a b la lb) (fun c hcm => ?_) hz hTI ⟨_, _, hTO⟩ h1 h2 (pl1.isList.at fun o e => hk _ o e) (pl2.isList.at fun o e => hk _ o e) hmin fun h'' tk acc c as hk2 hS hl hG hacc => ?_
      · show c < h'.objs.size
        rw [hsz]
        have e' : c = s1.heap.objs.size + 4 ∨ c = s1.heap.objs.size + 2 ∨ c = s1.heap.objs.size + 3 ∨ c = s1.heap.objs.size ∨ c = s1.heap.objs.size + 1 ∨ c = a ∨ c = b := by simpa using hcm
        rcases e' with z | z | z | z | z | z | z
        · rw [z]; exact Nat.lt_succ_self _
        · rw [z]; exact Nat.add_lt_add_left (by decide) _
        · rw [z]; exact Nat.add_lt_add_left (by decide) _
        · rw [z]; exact Nat.lt_add_of_pos_right (by decide)
        · rw [z]; exact Nat.add_lt_add_left (by decide) _
        · rw [z]; exact Nat.lt_of_lt_of_le la (Nat.le_add_right _ _)
        · rw [z]; exact Nat.lt_of_lt_of_le lb (Nat.le_add_right _ _)
      · have hk3 : ∀ b o, s1.heap.get? b = some o → h''.get? b = some o := fun b o e => hk2 b o (fun hm => by
          have lt := Heap.lt_size e
          have e' : b = s1.heap.objs.size + 4 ∨ b = s1.heap.objs.size + 3 ∨ b = s1.heap.objs.size ∨ b = s1.heap.objs.size + 1 := by simpa using hm
          have hle : s1.heap.objs.size ≤ b := by
            rcases e' with z | z | z | z
            · rw [z]; exact Nat.le_add_right _ _
            · rw [z]; exact Nat.le_add_right _ _
            · rw [z]; exact Nat.le_refl _
            · rw [z]; exact Nat.le_add_right _ _
          exact absurd lt (Nat.not_lt.mpr hle)) (hk b o e)
        have hSz : s1.heap.objs.size ≤ h'.objs.size := by rw [hsz]; exact Nat.le_add_right _ _
        obtain ⟨H', k1, k2, k3, k4, k5, k6, k7, k8, J⟩ := zip_laid (tk := tk) I1 hSz rv rv2 (by rw [List.size_toArray, List.size_toArray] at hmin; exact hmin) hk3 hS (by rw [hl, List.size_toArray, List.size_toArray]) hG hacc
        exact ⟨.ref _, H', J, rfl, q (its.zip its2) H' _ as k1 k2 k3 k4 k5 k6 (by rw [List.length_zip, List.length_zip, rv.length, rv2.length]) k7 k8⟩
section
variable {X : Cx} {W : WX}
def fLzip (f g : M PyData) : M (PyData × Bool) := fun env => bnd (f env) fun d e => bnd (g e) fun d' e' => match d, d' with
  | .list xs, .list ys => some (.ok (.list (zipF xs ys), true) e')
  | _, _ => none
theorem reps_lzip {K : PySem.W.Frag} {B' H' : Hp} : ∀ {ts : List Addr} {us : List (Value × Value)} {xs ys : List V} {ds es : List PyData}, us.length = (xs.zip ys).length → Paired (fun (t : Addr) (q : PZ) => H' t = some (pzO q)) ts (us.zip (xs.zip ys)) → Reps K B' xs ds → Reps K B' ys es → (∀ t ∈ ts, B' t = H' t) → Reps K B' (ts.map V.ref) (zipF ds es) := by
  intro ts
  induction ts with
  | nil =>
    intro us xs ys ds es hl hp rx ry hb
    have : (us.zip (xs.zip ys)).length = 0 := by
      have := Paired.length hp
      exact this.symm
    rw [List.length_zip, hl, Nat.min_self, List.length_zip] at this
    have lx := rx.length
    have ly := ry.length
    cases ds with
    | nil => exact .nil
    | cons d ds => cases es with
      | nil => exact .nil
      | cons e es =>
        rw [lx, ly, List.length_cons, List.length_cons] at this
        omega
  | cons t ts ih =>
    intro us xs ys ds es hl hp rx ry hb
    cases rx with
    | nil =>
      rw [List.zip_nil_left, List.zip_nil_right] at hp
      cases hp
    | cons r1 t1 =>
      cases ry with
      | nil =>
        rw [List.zip_nil_right, List.zip_nil_right] at hp
        cases hp
      | cons r2 t2 =>
        cases us with
        | nil =>
          rw [List.zip_nil_left] at hp
          cases hp
        | cons u us =>
          rw [List.zip_cons_cons, List.zip_cons_cons] at hp
          cases hp with
          | cons h1 h2 =>
            refine .cons (.tup (.inl ⟨pairO u, ?_, rfl⟩) (.cons r1 (.cons r2 .nil))) (ih (Nat.succ.inj (by simpa using hl)) h2 t1 t2 fun t ht => hb t (List.mem_cons_of_mem _ ht))
            rw [hb t List.mem_cons_self, h1]
            rfl
open Classical in
theorem lzip_ok {e e2 : Expr} {p p2 q1 pos : Pos} {f g : M PyData} (hc : X.calm = true) (h : PE X e (tD X W f)) (h2 : PE X e2 (tD X W g)) (hg : Gl X "list") (hm : X.mg "list" = none) (hv : bootBuiltins "list" = some (.type "list")) (hgz : Gl X "zip") (hmz : X.mg "zip" = none)
    (hs1 : starEach [e2] X.env = (false, eval e2 X.env) :: starEach [] X.env) (hs2 : starEach [e, e2] X.env = (false, eval e X.env) :: starEach [e2] X.env) (hpl : (backTo q1 (starEach [e2] X.env)).any (·.1) = false)
    (hs : starEach [.Call (.Name "zip" p2) [e, e2] [] q1] X.env = (false, eval (.Call (.Name "zip" p2) [e, e2] [] q1) X.env) :: starEach [] X.env) :
    PE X (.Call (.Name "list" p) [.Call (.Name "zip" p2) [e, e2] [] q1] [] pos) (tE X W (fLzip f g)) :=
  (pe_listZip hc (pa_cons h (pa_cons h2 pa_nil hs1) hs2) hg hm hv hgz hmz hs2 hpl hs).imp fun σ H Q ⟨H0, B0, fx, B, env, rr, S, hr, post⟩ => by
    unfold fLzip at hr
    rcases bnd_some hr with ⟨d, e1, k1, k2⟩ | ⟨c, e1, k1, rfl⟩
    · refine ⟨H0, B0, fx, B, env, _, S, k1, fun v H1 B1 s1 S1 r1 => ?_⟩
      rcases bnd_some k2 with ⟨d', e2, k3, k4⟩ | ⟨c, e2, k3, rfl⟩
      · refine ⟨H0, B0, fx, B1, e1, _, S1, k3, fun v' H2 B2 s2 S2 r2 => ?_⟩
        split at k4
        · rename_i ds es
          cases k4
          obtain ⟨a, xs, rfl, h1, h2⟩ := repL (r1.mono s2)
          obtain ⟨b, ys, rfl, h3, h4⟩ := repL r2
          refine ⟨a, b, xs, ys, rfl, S2.h.sub.seq h1, S2.h.sub.seq h3, fun us H' p ts kp np nts nd pn eP lu pr off => ?_⟩
          have hB2 : ∀ b o, B2 b = some o → b ∉ ts ∧ b ≠ p := fun b o e => ⟨(fun ht => by rw [none_of_same S2.h.sub (nts b ht)] at e; cases e), (fun z => by rw [z, none_of_same S2.h.sub np] at e; cases e)⟩
          let H'' : Hp := fun b => if b = p then none else H' b
          let B' : Hp := fun b => if b ∈ ts then H' b else B2 b
          have sH : Same H2 H'' := fun b o e => by
            show (if b = p then none else H' b) = some o
            rw [if_neg (fun z : b = p => by rw [z, np] at e; cases e)]
            exact kp b o e
          have sB : Same B2 B' := fun b o e => by
            show (if b ∈ ts then H' b else B2 b) = some o
            rw [if_neg (hB2 b o e).1]
            exact e
          have sub : Same B' H'' := fun b o e => by
            have e : (if b ∈ ts then H' b else B2 b) = some o := e
            by_cases ht : b ∈ ts
            · rw [if_pos ht] at e
              show (if b = p then none else H' b) = some o
              rw [if_neg (fun z : b = p => pn (z ▸ ht))]
              exact e
            · rw [if_neg ht] at e
              exact sH b o (S2.h.sub b o e)
          have S3 : Sim X.K H0 B0 fx B' H'' σ e2 := S2.after sH sB sub fun b o e => by
            have e : (if b ∈ ts then H' b else B2 b) = some o := e
            by_cases ht : b ∈ ts
            · exact .inr (nts b ht)
            · rw [if_neg ht] at e
              exact .inl e
          have nP : H'' p = none := if_pos rfl
          have S4 := S3.fresh (o := .lst (ts.map V.ref)) nP
          have eH : upd H'' p (.lst (ts.map V.ref)) = H' := by
            funext b
            by_cases z : b = p
            · rw [z, upd_same, eP]
            · rw [upd_ne z]
              exact if_neg z
          rw [eH] at S4
          exact post p _ (.lst (zipF ds es)) H' B' rfl ((s1.trans s2).trans sB) S4 (.lst (reps_lzip lu pr (h2.mono sB) (h4.mono sB) fun t ht => if_pos ht))
        · cases k4
      · exact ⟨H0, B0, fx, B1, e1, _, S1, k3, fun H' B' a s2 S2 hm => post H' B' a (s1.trans s2) S2 hm⟩
    · exact ⟨H0, B0, fx, B, env, _, S, k1, post⟩
end
end PyI

namespace PyI
open PySem PySem.Spec L2 PyProof.Rows PySem.W PySem.Calls PyProof.V
/-! # a dict's items, while it is locked -/
/-- keys and values of a dict's object -/
inductive IKV (a : Addr) : HO → List V → List V → Prop
  | dK (kvs : List (Key × V)) : IKV a (.dK kvs) (kvs.map fun p => kV p.1) (kvs.map (·.2))
  | dN (xs : List (NestedKey × Addr × V)) : IKV a (.ext (DNok a xs)) (xs.map fun x => V.ref x.2.1) (xs.map (·.2.2))
theorem entsN_get {w : World} (xs : List (NestedKey × Addr × V)) : ∀ (us : List Value) (i : Nat) (e : DictEntry), (entsN w xs us)[i]? = some e → ∃ x u, xs[i]? = some x ∧ us[i]? = some u ∧ e.key = .ref x.2.1 ∧ e.val = u := by
  induction xs with
  | nil => intro us i e h; simp [entsN] at h
  | cons x xs ih =>
    intro us i e h
    cases us with
    | nil => simp [entsN] at h
    | cons u us =>
      cases i with
      | zero =>
        have h : (some (⟨x.1.hash w, .ref x.2.1, u⟩ : DictEntry)) = some e := h
        cases h
        exact ⟨x, u, rfl, rfl, rfl, rfl⟩
      | succ i =>
        obtain ⟨x', u', q⟩ := ih us i e h
        exact ⟨x', u', q⟩
theorem entsN_len {w : World} : ∀ (xs : List (NestedKey × Addr × V)) (us : List Value), us.length = xs.length → (entsN w xs us).length = xs.length
  | [], _, _ => rfl
  | _ :: _, [], h => by cases h
  | _ :: xs, _ :: us, h => by
    show (entsN w xs us).length + 1 = xs.length + 1
    rw [entsN_len xs us (Nat.succ.inj h)]
section
variable {X : Cx} {pins : List (Addr × Obj)} {s : Shared} {σ : L2.St} {H : Hp}
theorem frz_raw (I : L2.Inv X pins σ H s) {a : Addr} {o : Obj} {u : HO} {ks vs : List V} (h : H a = some (.frz o u)) (k : IKV a u ks vs) :
    (a == sysModules) = false ∧ s.heap.get? a = some o ∧ o.ExactDict ∧ ks.length = vs.length ∧ ∃ (es : Array DictEntry) (ep : Nat), o.data = .dict es ep ∧ s.heap.DictRaw a es ep ∧ es.size = ks.length ∧ ∀ (i : Nat) (hi : i < es.size), ∃ k v, ks[i]? = some k ∧ vs[i]? = some v ∧ RelV k es[i].key ∧ RelV v es[i].val := by
  cases k with
  | dK kvs =>
    obtain ⟨hgd, hz, hs, us, kv, dd⟩ := I.hok a _ h
    obtain ⟨es, ep, raw, hsz0, he⟩ := dd.raw
    obtain ⟨o', g', hx, hdt⟩ := id raw
    rw [hgd] at g'; cases g'
    have lk : kvs.length = us.length := Paired.length kv
    have hsz : es.size = kvs.length := by omega
    refine ⟨hs, hgd, hx, by rw [List.length_map, List.length_map], es, ep, hdt, raw, by rw [List.length_map]; exact hsz, fun i hi => ?_⟩
    have hi2 : i < kvs.length := by omega
    obtain ⟨⟨pk, pv⟩, ek⟩ : ∃ p, kvs[i]? = some p := ⟨kvs[i], List.getElem?_eq_getElem hi2⟩
    obtain ⟨u, hu, ru⟩ := kv_get kv ek
    obtain ⟨e1, e2⟩ := he i hi _ _ hu
    refine ⟨kV pk, pv, by rw [List.getElem?_map, ek]; rfl, by rw [List.getElem?_map, ek]; rfl, ?_, by rw [e2]; exact ru⟩
    rw [mixKind_is] at e1
    rcases keyIs_shape e1 with ⟨j, t, q1, q2⟩ | ⟨j, t, q1, q2⟩
    · rw [q1, q2]; exact ⟨t, rfl⟩
    · rw [q1, q2]; exact ⟨t, rfl⟩
  | dN xs =>
    obtain ⟨hgd, ⟨hz, hs, us, ru, o', es, ep, g', hx, hdt, he, nd⟩, _, _⟩ := I.hok a _ h
    rw [hgd] at g'; cases g'
    have lu : us.length = xs.length := by have := ru.length; rw [List.length_map] at this; omega
    have hsz : es.size = xs.length := by rw [← Array.length_toList, he X.w, entsN_len xs us lu]
    refine ⟨hs, hgd, hx, by rw [List.length_map, List.length_map], es, ep, hdt, ⟨_, hgd, hx, hdt⟩, by rw [List.length_map]; exact hsz, fun i hi => ?_⟩
    have e1 : (entsN X.w xs us)[i]? = some es[i] := by rw [← he X.w, Array.getElem?_toList, Array.getElem?_eq_getElem hi]
    obtain ⟨x, u, q1, q2, q3, q4⟩ := entsN_get _ _ _ _ e1
    obtain ⟨u', g1, g2⟩ := ru.get (show (xs.map (·.2.2))[i]? = some x.2.2 by rw [List.getElem?_map, q1]; rfl)
    rw [q2] at g1; cases g1
    exact ⟨V.ref x.2.1, x.2.2, by rw [List.getElem?_map, q1]; rfl, by rw [List.getElem?_map, q1]; rfl, by rw [q3]; exact rfl, by rw [q4]; exact g2⟩
end
def Itm (a : Addr) (o : Obj) (u : HO) (ks vs : List V) : It :=
  ⟨fun i H => H a = some (.frz o u) ∧ i < ks.length,
    fun i H v H' => ∃ T k x, v = .ref T ∧ H T = none ∧ H' = upd H T (.tup [k, x]) ∧ ks[i]? = some k ∧ vs[i]? = some x,
    fun i H => H a = some (.frz o u) ∧ ks.length ≤ i⟩
theorem turn_itemsR {P : Program} {w : World} {K : PySem.W.Frag} {elts : List Expr} {kk : Nat} {tpos : Pos} {a : Addr} {o : Obj} {u : HO} {ks vs : List V} {es : Array DictEntry} {ep : Nat} (it : Addr) (k : IKV a u ks vs) (hod : o.data = .dict es ep) :
    Turn P w K (.Tuple elts kk tpos) (Itm a o u ks vs) [it] it (fun i h => ∃ ok ov, IsItemIter h it a i ks.length ep ok ov) where
  mem := by simp
  obj := fun i h st b hb => by
    have e : b = it := by simpa using hb
    subst e
    obtain ⟨ok, ov, e⟩ := st
    exact ⟨_, e, fun v z => nomatch z⟩
  keep := fun i h h' st k => let ⟨ok, ov, e⟩ := st; ⟨ok, ov, k it (by simp) _ e⟩
  item := by
    intro X hP hw hK hc i pins s σ H E I hf st hg
    subst hP hw hK
    obtain ⟨hd, hi⟩ := hg
    obtain ⟨hs, hgd, hx, hlv, es', ep', hdt, raw, hsz, ent⟩ := frz_raw I hd k
    rw [hod] at hdt; cases hdt
    have hi' : i < es.size := by omega
    obtain ⟨kv, v, hk1, hv1, rk, rv⟩ := ent i hi'
    obtain ⟨ok, ov, he⟩ := st
    rw [← hsz] at he
    have hlt : it < s.heap.objs.size := Heap.lt_size he
    refine wpAny_pyNext_items_item_raw he raw hi' fun h' ho hT hz hkp => ?_
    refine ⟨_, rfl, wpAny_letOwnedTupleGo_items (s := { s with heap := h' }) ho fun h'' he' sb => ?_⟩
    have hT2 : h''.get? s.heap.objs.size = some { cls := .type "tuple", data := .seq #[es[i].key, es[i].val] } := (sb.2 _ (Nat.ne_of_gt hlt)).trans hT
    have new : ObjOk X.prog X.w (upd H s.heap.objs.size (.tup [kv, v])) h'' s.heap.objs.size (.tup [kv, v]) :=
      ⟨by show 2 ≤ sizeLine; decide, [es[i].key, es[i].val], .cons rk (.cons rv .nil), ⟨_, hT2, rfl, _, rfl⟩⟩
    have I1 : L2.Inv X pins σ (upd H s.heap.objs.size (.tup [kv, v])) { s with heap := h'' } :=
      I.turnedNew (t' := s.toks) (ch := [it]) (fun b ob hb e => (sb.2 b (by simpa using hb)).trans (hkp b ob (by simpa using hb) e)) hf (Nat.le_refl _) new
    refine ⟨.ref s.heap.objs.size, _, I1, rfl, ⟨_, kv, v, rfl, I.hok.fresh (Nat.le_refl _), rfl, hk1, hv1⟩, ⟨es[i].key, es[i].val, ?_⟩, fun b hb => ?_⟩
    · rw [← hsz]; exact he'
    · have e : b = it := by simpa using hb
      rw [e, upd_ne (Nat.ne_of_lt hlt)]
      exact (hf it (by simp)).1
  done := by
    intro X hP hw hK hc i pins s σ H E I hf st hg
    subst hP hw hK
    obtain ⟨hd, hi⟩ := hg
    obtain ⟨f0, f1, f2, f3, f4, f5⟩ := hf it (by simp)
    obtain ⟨hs, hgd, hx, hlv, es', ep', hdt, raw, hsz, ent⟩ := frz_raw I hd k
    rw [hod] at hdt; cases hdt
    obtain ⟨ok, ov, he⟩ := st
    rw [← hsz] at he
    exact wpAny_pyNext_items_end_raw (I.ok.hd hc) he raw (by omega) fun h' eb => ⟨rfl, I.turned (t' := s.toks) (fun b ob hb e => eb b ob hb e) f0 f1 f3 f4 f5⟩
  self := fun A i s Q E st h => let ⟨_, _, e⟩ := st; PySem.W.kcp_self e h
def iItemsR (td : TE) : TI := fun σ H R => td σ H fun x H1 => ∃ a o u ks vs, x = .ref a ∧ H1 a = some (.frz o u) ∧ IKV a u ks vs ∧ R (Itm a o u ks vs) H1
theorem pi_itemsR {X : Cx} {e : Expr} {td : TE} {apos cpos : Pos} {elts : List Expr} {kk : Nat} {tpos : Pos} (he : PE X e td) (hbase : attributeBase e "items" X.env (eval e X.env) = eval e X.env) (hline : (apos.endLine == cpos.line) = true) :
    PI X (.Tuple elts kk tpos) (.Call (.Attribute e "items" apos) [] [] cpos) (iItemsR td) := by
  refine ⟨fun pins s σ H R I h => ?_⟩
  refine wpAny_Call_method (T := "dict") (id := "dict.items") hbase rfl hline F.plainAttrs_dict F.slot_dict_items F.type_dict_items (thn (he.run pins s σ H _ I h) fun u s1 ⟨x, H1, I1, rx, a, o, uh, ks, vs, ex, hd, k, q⟩ => ?_)
  subst ex
  obtain rfl : u = Value.ref a := rx
  obtain ⟨hs, hgd, hx, hlv, es, ep, hdt, raw, hsz, ent⟩ := frz_raw I1 hd k
  refine ⟨raw.typeIs, ?_, ?_⟩
  · exact fun a' e => by cases e; exact ⟨o, hgd, hx.2.1⟩
  have I2 : L2.Inv X pins σ H1 { s1 with heap := s1.heap.push { cls := .type "dict_items", data := .fields #[.ref a] } } := I1.kept (t' := s1.toks) fun b ob q => Heap.get?_push_of_some _ q
  have fin : wpAny (model X.prog X.w) X.A (pyIter (.ref s1.heap.objs.size)) (PIE X pins σ (.Tuple elts kk tpos) R) X.xe { s1 with heap := s1.heap.push { cls := .type "dict_items", data := .fields #[.ref a] } } := by
    refine wpAny_pyIter_items_raw (d := a) ⟨_, Heap.get?_push_size _ rfl, rfl, rfl⟩ (raw.push _) (pi_one (tk := s1.toks) I2 _ (turn_itemsR _ k hdt) ⟨.none, .none, ?_⟩ q)
    rw [← hsz]
    exact Heap.get?_push_size _ rfl
  show wpAny _ _ (callWith cpos (.builtin "dict.items") [.ref a] [] []) _ X.xe s1
  exact method_meetsIn F.slot_dict_items F.entry_dict_items rfl (PySem.evalArgs_none ⟨rfl, raw.typeIs, F.args_dict_items_1 _, _, meets_dict_items_raw a hs, ⟨⟨es, ep, raw⟩, fin⟩⟩)
end PyI

namespace PyI
open PySem PySem.Spec L2 PyProof.Rows PySem.W PySem.Calls PyProof.V
/-! # loops over a dict's items -/
mutual
/-- no dict within -/
def noDi : PyData → Bool
  | .none => true
  | .bool _ => true
  | .int _ => true
  | .str _ => true
  | .list ds => noDis ds
  | .tuple ds => noDis ds
  | .dict _ => false
def noDis : List PyData → Bool
  | [] => true
  | d :: ds => noDi d && noDis ds
end
theorem noDis_iff : ∀ ds : List PyData, noDis ds = true ↔ ∀ d ∈ ds, noDi d = true
  | [] => by simp [noDis]
  | d :: ds => by simp [noDis, noDis_iff ds]
def noDiC : Cn → Bool
  | .lst ds => noDis ds
  | .dic ps => noDis (ps.map (·.1)) && noDis (ps.map (·.2))
def dropS : Slot → Slot
  | .und => .und
  | .val d => if noDi d = true then .val d else .und
  | .ob c => if noDiC c = true then .ob c else .und
/-- slots with dicts are forgotten -/
def dropD (env : Ev) : Ev := env.map dropS
/-- a dict's object -/
def isDH (a : Addr) (u : HO) : Prop := (∃ kvs, u = .dK kvs) ∨ ∃ xs, u = .ext (DNok a xs)
theorem isDH.mut {a : Addr} {u : HO} (h : isDH a u) : Mut (some u) := by
  rcases h with ⟨_, rfl⟩ | ⟨_, rfl⟩ <;> exact True.intro
/-- neither a list nor a tuple -/
def noRd (o : Option HO) : Prop := (∀ xs, o ≠ some (.lst xs)) ∧ (∀ xs, o ≠ some (.tup xs)) ∧ (∀ o' xs, o ≠ some (.frz o' (.lst xs))) ∧ ∀ o' xs, o ≠ some (.frz o' (.tup xs))
theorem isDH.rd {a : Addr} {u : HO} (h : isDH a u) : noRd (some u) := by
  rcases h with ⟨_, rfl⟩ | ⟨_, rfl⟩ <;> exact ⟨(fun _ z => nomatch z), (fun _ z => nomatch z), (fun _ _ z => nomatch z), fun _ _ z => nomatch z⟩
theorem isDH.rdF {a : Addr} {u : HO} {o : Obj} (h : isDH a u) : noRd (some (.frz o u)) := by
  rcases h with ⟨_, rfl⟩ | ⟨_, rfl⟩ <;> exact ⟨(fun _ z => nomatch z), (fun _ z => nomatch z), (fun _ _ z => nomatch z), fun _ _ z => nomatch z⟩
section
variable {K : PySem.W.Frag} {B B' : Hp} {a : Addr}
theorem sqL_chg (hb : ∀ b, b ≠ a → B' b = B b) (n : noRd (B a)) {c : Addr} {xs : List V} (h : SqL K B c xs) : SqL K B' c xs := by
  rcases h with (h | ⟨o, h⟩) | h
  · have ne : c ≠ a := fun z => n.1 xs (z ▸ h)
    exact .inl (.inl (by rw [hb c ne]; exact h))
  · have ne : c ≠ a := fun z => n.2.2.1 o xs (z ▸ h)
    exact .inl (.inr ⟨o, by rw [hb c ne]; exact h⟩)
  · exact .inr h
theorem xt_chg (hb : ∀ b, b ≠ a → B' b = B b) (n : noRd (B a)) {c : Addr} {xs : List V} (h : XT K B c xs) : XT K B' c xs := by
  rcases h with ⟨o, h, q⟩ | h
  · have ne : c ≠ a := fun z => n.2.2.2 o xs (z ▸ h)
    exact .inl ⟨o, by rw [hb c ne]; exact h, q⟩
  · exact .inr h
mutual
theorem Rep.chg (hb : ∀ b, b ≠ a → B' b = B b) (n : noRd (B a)) : ∀ {v : V} {d : PyData}, Rep K B v d → noDi d = true → Rep K B' v d
  | _, _, .non, _ => .non
  | _, _, .bl b, _ => .bl b
  | _, _, .int i, _ => .int i
  | _, _, .str x, _ => .str x
  | _, _, .lst h r, k => .lst (sqL_chg hb n h) (Reps.chg hb n r (by simpa [noDi] using k))
  | _, _, .tup h r, k => .tup (xt_chg hb n h) (Reps.chg hb n r (by simpa [noDi] using k))
  | _, _, .dK _ _ _, k => by simp [noDi] at k
  | _, _, .dN _ _ _ _ _, k => by simp [noDi] at k
theorem Reps.chg (hb : ∀ b, b ≠ a → B' b = B b) (n : noRd (B a)) : ∀ {vs : List V} {ds : List PyData}, Reps K B vs ds → noDis ds = true → Reps K B' vs ds
  | _, _, .nil, _ => .nil
  | _, _, .cons (d := d) (ds := ds) r t, k => by
    have k' : noDi d = true ∧ noDis ds = true := by simpa [noDis] using k
    exact .cons (Rep.chg hb n r k'.1) (Reps.chg hb n t k'.2)
end
/-- no dict's object, too -/
def noRdA (o : Option HO) : Prop := noRd o ∧ (∀ kvs, o ≠ some (.dK kvs)) ∧ ∀ φ, o ≠ some (.ext φ)
theorem isDH.rdA {u : HO} {o : Obj} (h : isDH a u) : noRdA (some (.frz o u)) := ⟨h.rdF, (fun _ z => nomatch z), fun _ z => nomatch z⟩
mutual
theorem Rep.chgA (hb : ∀ b, b ≠ a → B' b = B b) (n : noRdA (B a)) : ∀ {v : V} {d : PyData}, Rep K B v d → Rep K B' v d
  | _, _, .non => .non
  | _, _, .bl b => .bl b
  | _, _, .int i => .int i
  | _, _, .str x => .str x
  | _, _, .lst h r => .lst (sqL_chg hb n.1 h) (Reps.chgA hb n r)
  | _, _, .tup h r => .tup (xt_chg hb n.1 h) (Reps.chgA hb n r)
  | _, _, .dK (a := c) (kvs := kvs) h k r => .dK (by rw [hb c (fun z => n.2.1 kvs (z ▸ h))]; exact h) k (Reps.chgA hb n r)
  | _, _, .dN (a := c) (xs := xs) q h k r t => .dN q (by rw [hb c (fun z => n.2.2 _ (z ▸ h))]; exact h) k (Reps.chgA hb n r) (Reps.chgA hb n t)
theorem Reps.chgA (hb : ∀ b, b ≠ a → B' b = B b) (n : noRdA (B a)) : ∀ {vs : List V} {ds : List PyData}, Reps K B vs ds → Reps K B' vs ds
  | _, _, .nil => .nil
  | _, _, .cons r t => .cons (Rep.chgA hb n r) (Reps.chgA hb n t)
end
theorem RepC.chg (hb : ∀ b, b ≠ a → B' b = B b) (n : noRd (B a)) {p : Addr} {u : HO} {c : Cn} (h : RepC K B p u c) (k : noDiC c = true) : RepC K B' p u c := by
  cases h with
  | lst r => exact .lst (Reps.chg hb n r k)
  | dK q r =>
    have k' := k
    simp only [noDiC, Bool.and_eq_true] at k'
    exact .dK q (Reps.chg hb n r k'.2)
  | dN m q r t =>
    have k' := k
    simp only [noDiC, Bool.and_eq_true] at k'
    exact .dN m q (Reps.chg hb n r k'.1) (Reps.chg hb n t k'.2)
theorem RepC.chgA (hb : ∀ b, b ≠ a → B' b = B b) (n : noRdA (B a)) {p : Addr} {u : HO} {c : Cn} (h : RepC K B p u c) : RepC K B' p u c := by
  cases h with
  | lst r => exact .lst (Reps.chgA hb n r)
  | dK q r => exact .dK q (Reps.chgA hb n r)
  | dN m q r t => exact .dN m q (Reps.chgA hb n r) (Reps.chgA hb n t)
end
/-- the thing at a is locked -/
def lkH (a : Addr) (o : Obj) (u : HO) (X : Hp) : Hp := fun b => if b = a then (X a).map (fun _ => .frz o u) else X b
section
variable {a : Addr} {o : Obj} {u : HO} {X Y : Hp}
theorem lkH_ne {b : Addr} (h : b ≠ a) : lkH a o u X b = X b := if_neg h
theorem lkH_at {v : HO} (h : X a = some v) : lkH a o u X a = some (.frz o u) := by
  show (if a = a then (X a).map (fun _ => HO.frz o u) else X a) = _
  rw [if_pos rfl, h]; rfl
theorem lkH_none {b : Addr} : lkH a o u X b = none ↔ X b = none := by
  by_cases h : b = a
  · subst h
    show (if b = b then (X b).map (fun _ => HO.frz o u) else X b) = none ↔ _
    rw [if_pos rfl, Option.map_eq_none_iff]
  · rw [lkH_ne h]
theorem lkH_same (s : Same X Y) : Same (lkH a o u X) (lkH a o u Y) := fun b v e => by
  by_cases h : b = a
  · subst h
    cases q : X b with
    | none => rw [lkH_none.mpr q] at e; cases e
    | some w => rw [lkH_at q] at e; rw [lkH_at (s b w q)]; exact e
  · rw [lkH_ne h] at e ⊢; exact s b v e
theorem lkH_upd {v : HO} (h : X a = some v) : lkH a o u X = upd X a (.frz o u) := by
  funext b
  by_cases hb : b = a
  · subst hb; rw [lkH_at h, upd_same]
  · rw [lkH_ne hb, upd_ne hb]
end
section
variable {K : PySem.W.Frag} {H0 B0 B H : Hp} {fx : List (Addr × HO)} {σ : L2.St} {env : Ev} {a : Addr} {o : Obj} {u : HO}
theorem dropD_get {env : Ev} {i : Nat} : (dropD env)[i]? = (env[i]?).map dropS := List.getElem?_map
theorem dropD_ob {env : Ev} {i : Nat} {c : Cn} (h : (dropD env)[i]? = some (.ob c)) : env[i]? = some (.ob c) ∧ noDiC c = true := by
  rw [dropD_get] at h
  cases q : env[i]? with
  | none => rw [q] at h; cases h
  | some s =>
    rw [q] at h
    have h : some (dropS s) = some (.ob c) := h
    unfold dropS at h
    split at h
    · cases h
    · split at h <;> cases h
    · split at h
      · cases h; exact ⟨rfl, ‹_›⟩
      · cases h
theorem dropD_val {env : Ev} {i : Nat} {d : PyData} (h : (dropD env)[i]? = some (.val d)) : env[i]? = some (.val d) ∧ noDi d = true := by
  rw [dropD_get] at h
  cases q : env[i]? with
  | none => rw [q] at h; cases h
  | some s =>
    rw [q] at h
    have h : some (dropS s) = some (.val d) := h
    unfold dropS at h
    split at h
    · cases h
    · split at h
      · cases h; exact ⟨rfl, ‹_›⟩
      · cases h
    · split at h <;> cases h
theorem simLock (S : Sim K H0 B0 fx B H σ env) (hB : B a = some u) (hu : isDH a u) (o : Obj) : Sim K (lkH a o u H0) (lkH a o u B0) fx (lkH a o u B) (lkH a o u H) σ (dropD env) := by
  have hch : ∀ b, b ≠ a → lkH a o u B b = B b := fun b h => lkH_ne h
  have nr : noRd (B a) := by rw [hB]; exact hu.rd
  have nea : ∀ {b : Addr}, B b = none → b ≠ a := fun {b} h z => by subst z; rw [hB] at h; cases h
  refine ⟨⟨lkH_same S.h.sub, lkH_same S.h.old, lkH_same S.h.b0, fun b v e => ?_, fun p hp => ?_, S.h.nd⟩, by rw [S.len]; unfold dropD; rw [List.length_map], fun i s e => ?_, fun i j p xs ys ei ej => ?_, fun p hp i xs e => ?_⟩
  · by_cases hb : b = a
    · subst hb
      rw [lkH_at hB] at e; cases e
      rcases S.h.new b u hB with q | q
      · exact .inl (lkH_at q)
      · exact .inr (lkH_none.mpr q)
    · rw [lkH_ne hb] at e ⊢
      rcases S.h.new b v e with q | q
      · exact .inl q
      · exact .inr (lkH_none.mpr q)
  · obtain ⟨h1, h2, h3⟩ := S.h.kept p hp
    have ne := nea h2
    exact ⟨by rw [lkH_ne ne]; exact h1, lkH_none.mpr h2, lkH_none.mpr h3⟩
  · cases s with
    | und =>
      rw [dropD_get] at e
      cases q : env[i]? with
      | none => rw [q] at e; cases e
      | some s =>
        obtain ⟨w, h1, _⟩ := S.slot i s q
        exact ⟨w, h1, trivial⟩
    | val d =>
      obtain ⟨e1, k⟩ := dropD_val e
      obtain ⟨w, h1, v, hv, r⟩ := S.slot i _ e1
      exact ⟨w, h1, v, hv, r.chg hch nr k⟩
    | ob c =>
      obtain ⟨e1, k⟩ := dropD_ob e
      obtain ⟨w, h1, p, u', hv, a1, a2, a3, r⟩ := S.slot i _ e1
      exact ⟨w, h1, p, u', hv, by rw [lkH_ne (nea a2)]; exact a1, lkH_none.mpr a2, lkH_none.mpr a3, r.chg hch nr k⟩
  · exact S.inj i j p xs ys (dropD_ob ei).1 (dropD_ob ej).1
  · exact S.fxo p hp i xs (dropD_ob e).1
theorem simUnlock {B1 H1 : Hp} {σ1 : L2.St} {e1 : Ev} {fx1 : List (Addr × HO)} (S : Sim K H0 B0 fx B H σ env) (hB : B a = some u) (hu : isDH a u) (s : Same (lkH a o u B) B1) (S1 : Sim K (lkH a o u H0) (lkH a o u B0) fx1 B1 H1 σ1 e1) :
    H1 a = some (.frz o u) ∧ Same B (upd B1 a u) ∧ Sim K H0 B0 fx1 (upd B1 a u) (upd H1 a u) σ1 e1 := by
  have hB1 : B1 a = some (.frz o u) := s _ _ (lkH_at hB)
  have hH1 : H1 a = some (.frz o u) := S1.h.sub _ _ hB1
  have hch : ∀ b, b ≠ a → upd B1 a u b = B1 b := fun b h => upd_ne h
  have nr : noRdA (B1 a) := by rw [hB1]; exact hu.rdA
  have nea : ∀ {b : Addr}, B1 b = none → b ≠ a := fun {b} h z => by subst z; rw [hB1] at h; cases h
  have sB : Same B (upd B1 a u) := fun b v e => by
    by_cases hb : b = a
    · subst hb; rw [hB] at e; rw [upd_same]; exact e
    · rw [upd_ne hb]; exact s b v (by rw [lkH_ne hb]; exact e)
  refine ⟨hH1, sB, ⟨⟨fun b v e => ?_, fun b v e => ?_, S.h.b0.trans sB, fun b v e => ?_, fun p hp => ?_, S1.h.nd⟩, S1.len, fun i sl e => ?_, S1.inj, S1.fxo⟩⟩
  · by_cases hb : b = a
    · subst hb; rw [upd_same] at e ⊢; exact e
    · rw [upd_ne hb] at e ⊢; exact S1.h.sub b v e
  · by_cases hb : b = a
    · subst hb
      have q := S.h.old b v e
      rw [S.h.sub b u hB] at q
      rw [upd_same]; exact q
    · rw [upd_ne hb]; exact S1.h.old b v (by rw [lkH_ne hb]; exact e)
  · by_cases hb : b = a
    · subst hb
      rw [upd_same] at e; cases e
      exact S.h.new b u hB
    · rw [upd_ne hb] at e
      rcases S1.h.new b v e with q | q
      · rw [lkH_ne hb] at q; exact .inl q
      · exact .inr (lkH_none.mp q)
  · obtain ⟨h1, h2, h3⟩ := S1.h.kept p hp
    have ne := nea h2
    exact ⟨by rw [upd_ne ne]; exact h1, by rw [upd_ne ne]; exact h2, lkH_none.mp h3⟩
  · obtain ⟨w, h1, h2⟩ := S1.slot i sl e
    refine ⟨w, h1, ?_⟩
    cases sl with
    | und => trivial
    | val d => obtain ⟨v, hv, r⟩ := h2; exact ⟨v, hv, r.chgA hch nr⟩
    | ob c =>
      obtain ⟨p, u', hv, a1, a2, a3, r⟩ := h2
      have ne := nea a2
      exact ⟨p, u', hv, by rw [upd_ne ne]; exact a1, by rw [upd_ne ne]; exact a2, lkH_none.mp a3, r.chgA hch nr⟩
theorem hsimUnlock {B1 H1 : Hp} {fx1 : List (Addr × HO)} (S : Sim K H0 B0 fx B H σ env) (hB : B a = some u) (hu : isDH a u) (s : Same (lkH a o u B) B1) (S1 : HSim (lkH a o u H0) (lkH a o u B0) fx1 B1 H1) :
    H1 a = some (.frz o u) ∧ Same B (upd B1 a u) ∧ HSim H0 B0 fx1 (upd B1 a u) (upd H1 a u) := by
  obtain ⟨h1, h2, h3⟩ := simUnlock (K := K) (σ1 := []) (e1 := []) S hB hu s ⟨S1, rfl, fun i s e => (by simp at e), fun i j p xs ys e => (by simp at e), fun p hp i xs e => (by simp at e)⟩
  exact ⟨h1, h2, h3.h⟩
end
def prF (p : PyData × PyData) : PyData := .tuple [p.1, p.2]
theorem itItems {K : PySem.W.Frag} {B1 : Hp} {a : Addr} {o : Obj} {u : HO} {ks vs : List V} {ps : List (PyData × PyData)} (h : B1 a = some (.frz o u)) (rk : Reps K B1 ks (ps.map (·.1))) (rv : Reps K B1 vs (ps.map (·.2))) : ItOk true K B1 (Itm a o u ks vs) (ps.map prF) := fun H0 B0 fx B H σ env i s S => by
  have hH : H a = some (.frz o u) := S.h.sub _ _ (s _ _ h)
  have lk : ks.length = ps.length := by have := rk.length; rw [List.length_map] at this; exact this
  refine ⟨fun hl => ⟨hH, by rw [lk]; rw [List.length_map] at hl; exact hl⟩, fun d hd => ?_⟩
  rw [List.getElem?_map] at hd
  cases q : ps[i]? with
  | none => rw [q] at hd; cases hd
  | some p =>
    rw [q] at hd; cases hd
    obtain ⟨kv, hk, rk1⟩ := rk.get (show (ps.map (·.1))[i]? = some p.1 by rw [List.getElem?_map, q]; rfl)
    obtain ⟨xv, hx, rv1⟩ := rv.get (show (ps.map (·.2))[i]? = some p.2 by rw [List.getElem?_map, q]; rfl)
    have hi : i < ks.length := by
      rcases Nat.lt_or_ge i ks.length with z | z
      · exact z
      · rw [List.getElem?_eq_none z] at hk; cases hk
    refine ⟨⟨hH, hi⟩, fun x H' ⟨T, k', x', e1, hT, e2, y1, y2⟩ => ?_⟩
    subst e1 e2
    rw [hk] at y1; cases y1
    rw [hx] at y2; cases y2
    have sB : Same B (upd B T (.tup [kv, xv])) := same_upd (none_of_same S.h.sub hT)
    exact ⟨_, sB, S.alloc hT, .inr ⟨rfl, _, _, _, rfl, rfl, SqT.of upd_same, .cons ((rk1.mono s).mono sB) (.cons ((rv1.mono s).mono sB) .nil)⟩⟩
/-- what a dict's value tells of its object -/
theorem rep_dict {K : PySem.W.Frag} {B : Hp} {v : V} {ps : List (PyData × PyData)} (r : Rep K B v (.dict ps)) : ∃ a u ks vs, v = .ref a ∧ B a = some u ∧ isDH a u ∧ IKV a u ks vs ∧ Reps K B ks (ps.map (·.1)) ∧ Reps K B vs (ps.map (·.2)) := by
  cases r with
  | dK h k q =>
    rename_i a kvs
    refine ⟨a, _, _, _, rfl, h, .inl ⟨_, rfl⟩, .dK kvs, ?_, q⟩
    clear q h
    induction kvs generalizing ps with
    | nil =>
      cases ps with
      | nil => exact .nil
      | cons _ _ => cases k
    | cons x kvs ih =>
      cases ps with
      | nil => cases k
      | cons p ps =>
        rw [List.map_cons, List.map_cons] at k
        injection k with k1 k2
        rw [List.map_cons, List.map_cons]
        refine .cons ?_ (ih k2)
        obtain ⟨pk, pv⟩ := p
        have k1 : dkOf pk = some (.k x.1) := k1
        show Rep K B (kV x.1) pk
        unfold dkOf at k1
        split at k1
        · have e : x.1 = Sum.inl _ := (DK.k.inj (Option.some.inj k1)).symm
          rw [e]; exact .int _
        · have e : x.1 = Sum.inr _ := (DK.k.inj (Option.some.inj k1)).symm
          rw [e]; exact .str _
        · unfold dkTup at k1
          split at k1
          · split at k1 <;> cases k1
          · cases k1
        · cases k1
  | dN n h k q t => exact ⟨_, _, _, _, rfl, h, .inr ⟨_, rfl⟩, .dN _, q, t⟩
/-- the dict of a slot, while a loop walks its items -/
def dicOf (env : Ev) (i : Nat) : Option (List (PyData × PyData) × Ev) := match env[i]? with
  | some (.val (.dict ps)) => if noDiC (.dic ps) = true then some (ps, dropD env) else none
  | some (.ob (.dic ps)) => if noDiC (.dic ps) = true then some (ps, dropD (env.set i (.val (.dict ps)))) else none
  | _ => none
theorem lockAt {K : PySem.W.Frag} {H0 B0 B H : Hp} {fx : List (Addr × HO)} {σ : L2.St} {env e1 : Ev} {i : Nat} {ps : List (PyData × PyData)} (S : Sim K H0 B0 fx B H σ env) (h : dicOf env i = some (ps, e1)) :
    ∃ a u ks vs B' env', σ[i]? = some (some (.ref a)) ∧ Same B B' ∧ B' a = some u ∧ isDH a u ∧ IKV a u ks vs ∧ (∀ o, Reps K (lkH a o u B') ks (ps.map (·.1))) ∧ (∀ o, Reps K (lkH a o u B') vs (ps.map (·.2))) ∧ Sim K H0 B0 fx B' H σ env' ∧ e1 = dropD env' := by
  have main : ∀ {B' : Hp} {env' : Ev}, Same B B' → Sim K H0 B0 fx B' H σ env' → env'[i]? = some (.val (.dict ps)) → noDiC (.dic ps) = true → e1 = dropD env' → ∃ a u ks vs B' env', σ[i]? = some (some (.ref a)) ∧ Same B B' ∧ B' a = some u ∧ isDH a u ∧ IKV a u ks vs ∧ (∀ o, Reps K (lkH a o u B') ks (ps.map (·.1))) ∧ (∀ o, Reps K (lkH a o u B') vs (ps.map (·.2))) ∧ Sim K H0 B0 fx B' H σ env' ∧ e1 = dropD env' := by
    intro B' env' s S' e k q
    obtain ⟨v, hv, r⟩ := S'.val e
    obtain ⟨a, u, ks, vs, rfl, hB, hu, kv, r1, r2⟩ := rep_dict r
    simp only [noDiC, Bool.and_eq_true] at k
    have nr : noRd (B' a) := by rw [hB]; exact hu.rd
    exact ⟨a, u, ks, vs, B', env', hv, s, hB, hu, kv, fun o => r1.chg (fun b h => lkH_ne h) nr k.1, fun o => r2.chg (fun b h => lkH_ne h) nr k.2, S', q⟩
  unfold dicOf at h
  split at h
  · rename_i ps' e
    split at h
    · rename_i k
      cases h
      exact main (Same.refl B) S e k rfl
    · cases h
  · rename_i ps' e
    split at h
    · rename_i k
      cases h
      obtain ⟨p, u, h1, h2, h3, h4⟩ := S.frzSlot e
      exact main h3 h4 (get_set_eq e) k rfl
    · cases h
  · cases h
/-- [.. for .. in d.items() ..] -/
def fCompI (i : Nat) (tg : TgF) (test : M Bool) (elt : M PyData) (vs : List Nat) : M (PyData × Bool) := fun env => match dicOf env i with
  | some (ps, e) => match compL tg test elt vs (ps.map prF) [] e with
    | some (ys, e') => some (.ok (.list ys, true) (backE e e' vs))
    | none => none
  | none => none
section
variable {X : Cx} {W : WX}
theorem compIRun {i : Nat} {vs : List Nat} {tg : TgF} {test : M Bool} {elt : M PyData} {sl : List Nat} (hsl : ∀ s ∈ sl, s ∈ vs) : ∀ σ H Q, tE X W (fCompI i tg test elt vs) σ H Q →
    tLockE (tLc (iItemsR (tVar i)) (tG X true sl tg) (tT X W0 test) (tD X W0 elt) vs) σ H Q := by
  intro σ H Q ⟨H0, B0, fx, B, env, rr, S, hr, post⟩
  unfold fCompI at hr
  split at hr
  · rename_i ps e1 hd
    split at hr
    · rename_i ys e' hL
      cases hr
      obtain ⟨a, u, ks, xs, Bf, env', hσ, sf, hB, hu, kv, rk, rv, Sf, rfl⟩ := lockAt S hd
      have hH : H a = some u := Sf.h.sub _ _ hB
      refine ⟨a, u, hH, hu.mut, fun o => ?_⟩
      rw [← lkH_upd hH]
      have S1 := simLock Sf hB hu o
      have io := itItems (lkH_at (o := o) (u := u) hB) (rk o) (rv o)
      refine ⟨.ref a, hσ, a, o, u, ks, xs, rfl, lkH_at hH, kv, fun D hD => ?_⟩
      generalize hds : ps.map prF = ds at *
      refine ⟨fun i m H => ∃ acc accV e B2, Sim X.K (lkH a o u H0) (lkH a o u B0) ((D, .lst accV) :: fx) B2 H (L2.wipe σ vs) (wipeE e vs) ∧ Reps X.K B2 accV acc ∧ Same (lkH a o u Bf) B2 ∧ m = ds.length - i ∧ i ≤ ds.length ∧ compL tg test elt vs (ds.drop i) acc e = some (ys, e'), ⟨ds.length, [], [], _, _, (S1.fresh hD).wipe vs, .nil, Same.refl _, by simp, Nat.zero_le _, hL⟩, ?_⟩
      rintro i m H2 ⟨acc, accV, e, B2, S2, r2, s2, rfl, hi, hc⟩
      obtain ⟨io1, io2⟩ := io _ _ _ _ _ _ _ i s2 S2
      by_cases hlt : i < ds.length
      · have ed : ds.drop i = ds[i] :: ds.drop (i + 1) := (List.drop_eq_getElem_cons hlt)
        rw [ed] at hc
        obtain ⟨go, yld⟩ := io2 ds[i] (List.getElem?_eq_getElem hlt)
        refine .inr ⟨go, fun H' => ∃ acc accV e B2, Sim X.K (lkH a o u H0) (lkH a o u B0) ((D, .lst accV) :: fx) B2 H' (L2.wipe σ vs) (wipeE e vs) ∧ Reps X.K B2 accV acc ∧ Same (lkH a o u Bf) B2 ∧ compL tg test elt vs (ds.drop (i + 1)) acc e = some (ys, e'), fun H' ⟨acc, accV, e, B3, S3, r3, s3, c3⟩ => ⟨_, by omega, acc, accV, e, B3, S3, r3, s3, rfl, hlt, c3⟩, fun x H3 y => ?_⟩
        obtain ⟨B3, s3, S3, r3⟩ := yld x H3 y
        unfold compL at hc
        split at hc
        · cases hc
        · rename_i ea ha
          refine ⟨_, _, _, B3, _, ea, _, S3, r3, ha, fun σ' S4 w4 => ?_⟩
          have w4' : L2.wipe σ' vs = L2.wipe σ vs := by
            have := w4 vs hsl
            rw [this]
            apply List.ext_getElem?
            intro j
            rw [wipe_get, wipe_get]
            by_cases hj : j ∈ vs
            · rw [if_pos hj, if_pos hj]
              cases q : σ[j]? <;> simp
            · rw [if_neg hj, if_neg hj]
          refine ⟨w4', ?_⟩
          split at hc
          · rename_i eb hb
            refine ⟨_, _, _, B3, ea, _, S4, hb, fun H5 B5 s5 S5 => ?_⟩
            refine iteT ?_
            split at hc
            · rename_i yd ec hy
              refine ⟨_, _, _, B5, eb, _, S5, hy, fun v H6 B6 s6 S6 r6 => ?_⟩
              split at hc
              · rename_i hz
                have rA := ((r2.mono s3).mono s5).mono s6
                obtain ⟨h1, _, _⟩ := S6.h.kept (D, .lst accV) List.mem_cons_self
                refine ⟨accV, h1, by rw [rA.length]; exact hz, acc ++ [yd], accV ++ [v], ec, B6, wipeE_wipe (S6.write) w4', rA.append (.one r6), ((s2.trans s3).trans s5).trans s6, hc⟩
              · cases hc
            · cases hc
          · rename_i eb hb
            refine ⟨_, _, _, B3, ea, _, S4, hb, fun H5 B5 s5 S5 => ?_⟩
            refine iteF ?_
            exact ⟨acc, accV, eb, B5, wipeE_wipe S5 w4', (r2.mono s3).mono s5, (s2.trans s3).trans s5, hc⟩
          · cases hc
      · have e0 : i = ds.length := by omega
        subst e0
        rw [List.drop_length] at hc
        cases hc
        refine .inl ⟨io1 (Nat.le_refl _), ?_⟩
        obtain ⟨q1, q2, q3⟩ := simUnlock Sf hB hu s2 (S1.back s2 S2)
        have hB2 : B2 a = some (.frz o u) := s2 _ _ (lkH_at hB)
        exact ⟨q1, post D _ (.lst ys) _ _ rfl (sf.trans q2) q3 (.lst (r2.chgA (fun b h => upd_ne h) (by rw [hB2]; exact hu.rdA)))⟩
    · cases hr
  · cases hr
theorem compI_ok {i : Nat} {x : PySem.Str} {p apos cpos : Pos} {elt : Expr} {elts : List Expr} {kk : Nat} {tpos : Pos} {ifs : List Expr} {scope : Scope} {own : List (PySem.Str × Nat)} {pos : Pos} {tg : TgF} {sl : List Nat} {test : M Bool} {ef : M PyData} (hc : X.calm = true) (hN : X.N.Nodup)
    (hx : X.N[i]? = some x) (hv : Vis X.env.scope x) (hd : (x == ("__debug__" : PySem.Str)) = false) (hcd : (x == ("__classdict__" : PySem.Str)) = false) (hline : (apos.endLine == cpos.line) = true) (ok : BlkOk X.N X.env.scope scope own)
    (hg : ∀ s H C cl fp, PG (blkX X scope s H C cl fp) (.Tuple elts kk tpos) (tG (blkX X scope s H C cl fp) true sl tg)) (hsl : ∀ s ∈ sl, s ∈ own.map (·.2)) (ht : ∀ s H C cl fp, PTs (blkX X scope s H C cl fp) ifs (tT (blkX X scope s H C cl fp) W0 test))
    (he : ∀ s H C cl fp, PE (blkX X scope s H C cl fp) elt (tD (blkX X scope s H C cl fp) W0 ef)) :
    PE X (.ListComp elt [⟨.Tuple elts kk tpos, .Call (.Attribute (.Name x p) "items" apos) [] [] cpos, ifs, 0⟩] scope pos) (tE X W (fCompI i tg test ef (own.map (·.2)))) :=
  (pe_lock (pe_lc hc hN (pi_itemsR (pe_var hx hv hd hcd) rfl hline) ok hg ht he)).imp (compIRun (X := X) hsl)
/-- for .. in d.items() -/
def sForI (i : Nat) (tg : TgF) (body : MS) : MS := fun env => match dicOf env i with
  | some (ps, e) => match forL tg body (ps.map prF) e with
    | some (.exc _ _) => none
    | r => r
  | none => none
theorem forI_ok {i : Nat} {x : PySem.Str} {p apos cpos : Pos} {elts : List Expr} {kk : Nat} {tpos : Pos} {body : List Stmt} {pos : Pos} {tg : TgF} {sl : List Nat} {f : MS} (hp : PassesOwn (model X.prog X.w) X.A X.env X.xe) (hc : X.calm = true)
    (hx : X.N[i]? = some x) (hv : Vis X.env.scope x) (hd : (x == ("__debug__" : PySem.Str)) = false) (hcd : (x == ("__classdict__" : PySem.Str)) = false) (hline : (apos.endLine == cpos.line) = true)
    (hg : PG X (.Tuple elts kk tpos) (tG X true sl tg)) (hb : PSs X body (tS X W f)) : PS X (.For (.Tuple elts kk tpos) (.Call (.Attribute (.Name x p) "items" apos) [] [] cpos) body [] pos) (tS X W (sForI i tg f)) :=
  (ps_lock (ps_for hp hc (pi_itemsR (pe_var hx hv hd hcd) rfl hline) hg hb)).imp fun D σ H ⟨H0, B0, fx, B, env, r, S, hr, post⟩ => by
    unfold sForI at hr
    split at hr
    · rename_i ps e1 hdc
      have hne : forL tg f (ps.map prF) e1 = some r ∧ ∀ c e, r ≠ .exc c e := by
        split at hr
        · cases hr
        · rename_i h
          exact ⟨hr, fun c e z => h c e (by rw [hr, z])⟩
      obtain ⟨k2, hne⟩ := hne
      clear hr
      obtain ⟨a, u, ks, xs, Bf, env', hσ, sf, hB, hu, kv, rk, rv, Sf, rfl⟩ := lockAt S hdc
      have hH : H a = some u := Sf.h.sub _ _ hB
      refine ⟨a, u, hH, hu.mut, fun o => ?_⟩
      rw [← lkH_upd hH]
      have S1 := simLock Sf hB hu o
      have io := itItems (lkH_at (o := o) (u := u) hB) (rk o) (rv o)
      refine ⟨.ref a, hσ, a, o, u, ks, xs, rfl, lkH_at hH, kv, ?_⟩
      generalize hds : ps.map prF = ds at *
      refine ⟨fun i m σ H => ∃ e B2, Sim X.K (lkH a o u H0) (lkH a o u B0) fx B2 H σ e ∧ Same (lkH a o u Bf) B2 ∧ m = ds.length - i ∧ i ≤ ds.length ∧ forL tg f (ds.drop i) e = some r, ⟨ds.length, _, _, S1, Same.refl _, by simp, Nat.zero_le _, k2⟩, ?_⟩
      rintro i m σ2 H2 ⟨e, B2, S2, s2, rfl, hi, hf⟩
      obtain ⟨io1, io2⟩ := io _ _ _ _ _ _ _ i s2 S2
      by_cases hlt : i < ds.length
      · rw [List.drop_eq_getElem_cons hlt] at hf
        obtain ⟨go, yld⟩ := io2 ds[i] (List.getElem?_eq_getElem hlt)
        refine .inr ⟨go, fun σ' H' => ∃ e B2, Sim X.K (lkH a o u H0) (lkH a o u B0) fx B2 H' σ' e ∧ Same (lkH a o u Bf) B2 ∧ forL tg f (ds.drop (i + 1)) e = some r, fun σ' H' ⟨e, B3, S3, s3, c3⟩ => ⟨_, by omega, e, B3, S3, s3, rfl, hlt, c3⟩, fun x H3 y => ?_⟩
        obtain ⟨B3, s3, S3, r3⟩ := yld x H3 y
        unfold forL at hf
        split at hf
        · cases hf
        · rename_i ea ha
          refine ⟨_, _, fx, B3, _, ea, _, S3, r3, ha, fun σ' S4 _ => ?_⟩
          cases q : f ea with
          | none => rw [q] at hf; cases hf
          | some rb =>
            rw [q] at hf
            refine ⟨_, _, fx, B3, ea, rb, S4, q, ?_⟩
            cases rb with
            | nx e2 => exact fun σ5 H5 B5 s5 S5 => ⟨e2, B5, S5, (s2.trans s3).trans s5, hf⟩
            | cnt e2 => exact fun σ5 H5 B5 s5 S5 => ⟨e2, B5, S5, (s2.trans s3).trans s5, hf⟩
            | brk e2 =>
              cases hf
              intro σ5 H5 B5 s5 S5
              obtain ⟨q1, q2, q3⟩ := simUnlock Sf hB hu ((s2.trans s3).trans s5) S5
              exact ⟨q1, post σ5 _ _ (sf.trans q2) q3⟩
            | ret d =>
              cases hf
              intro v H5 B5 s5 S5 r
              have sA := (s2.trans s3).trans s5
              obtain ⟨q1, q2, q3⟩ := hsimUnlock Sf hB hu sA S5
              have hB2 : B5 a = some (.frz o u) := sA _ _ (lkH_at hB)
              exact ⟨q1, post v _ _ (sf.trans q2) q3 (r.chgA (fun b h => upd_ne h) (by rw [hB2]; exact hu.rdA))⟩
            | exc c e2 => cases hf; exact absurd rfl (hne c e2)
      · have e0 : i = ds.length := by omega
        subst e0
        rw [List.drop_length] at hf
        cases hf
        obtain ⟨q1, q2, q3⟩ := simUnlock Sf hB hu s2 S2
        exact .inl ⟨io1 (Nat.le_refl _), q1, post σ2 _ _ (sf.trans q2) q3⟩
    · cases hr
end
/-- x.bit_length() -/
def fBits (f : M PyData) : M PyData := fun env => bnd (f env) fun d e => match d with
  | .int i => some (.ok (.int (Builtin.Int.intBits i : Nat)) e)
  | _ => none
theorem bits_ok {X : Cx} {W : WX} {o : Expr} {apos pos : Pos} {f : M PyData} (ho : PE X o (tD X W f)) (hbase : attributeBase o "bit_length" X.env (eval o X.env) = eval o X.env) (hline : (apos.endLine == pos.line) = true) :
    PE X (.Call (.Attribute o "bit_length" apos) [] [] pos) (tD X W (fBits f)) := (pe_bits ho hbase hline).imp fun σ H Q ⟨H0, B0, fx, B, env, rr, S, hr, post⟩ => by
  unfold fBits at hr
  rcases bnd_some hr with ⟨d, e1, k1, k2⟩ | ⟨c, e1, k1, rfl⟩
  · refine ⟨H0, B0, fx, B, env, _, S, k1, fun v H1 B1 s1 S1 r1 => ?_⟩
    split at k2
    · cases k2
      cases r1
      exact ⟨_, rfl, post _ H1 B1 s1 S1 (.int _)⟩
    · cases k2
  · exact ⟨H0, B0, fx, B, env, _, S, k1, post⟩
end PyI

namespace PyI
open PySem PySem.Spec L2 PyProof.Rows
/-! # y = {k: v for .. in xs}, xs a slot's own list, which stays its own -/
section
variable {K : PySem.W.Frag} {H0 B0 B H : Hp} {fx : List (Addr × HO)} {σ : L2.St} {env : Ev}
/-- what a slot owns is set aside -/
theorem Sim.takeOb (S : Sim K H0 B0 fx B H σ env) {j : Nat} {c : Cn} {p : Addr} {u : HO} (e : env[j]? = some (.ob c)) (h1 : σ[j]? = some (some (.ref p))) (h2 : H p = some u) (h3 : B p = none) (h4 : H0 p = none) : Sim K H0 B0 ((p, u) :: fx) B H σ (env.set j .und) := by
  have S1 := setUnd S j (some (V.ref p))
  have eσ : σ.set j (some (V.ref p)) = σ := by
    have hl : j < σ.length := by
      rcases Nat.lt_or_ge j σ.length with h | h
      · exact h
      · rw [List.getElem?_eq_none h] at h1; cases h1
    rw [List.getElem?_eq_getElem hl] at h1
    have h1 := Option.some.inj h1
    rw [← h1]
    exact List.set_getElem_self hl
  rw [eσ] at S1
  refine ⟨⟨S1.h.sub, S1.h.old, S1.h.b0, S1.h.new, fun q hq => ?_, ?_⟩, S1.len, S1.slot, S1.inj, fun q hq i xs ei z => ?_⟩
  · rcases List.mem_cons.mp hq with rfl | hq
    · exact ⟨h2, h3, h4⟩
    · exact S1.h.kept q hq
  · rw [List.map_cons, List.nodup_cons]
    refine ⟨fun hm => ?_, S1.h.nd⟩
    obtain ⟨q, hq, e1⟩ := List.mem_map.mp hm
    exact S.fxo q hq j c e (by rw [e1]; exact h1)
  · rcases List.mem_cons.mp hq with rfl | hq
    · have hne : i ≠ j := fun z => by
        subst z
        rw [get_set_eq e] at ei; cases ei
      rw [get_set_ne hne] at ei
      exact hne (S.inj i j p xs c ei e z h1)
    · exact S1.fxo q hq i xs ei z
theorem Sim.swapFx {p q : Addr × HO} (S : Sim K H0 B0 (p :: q :: fx) B H σ env) : Sim K H0 B0 (q :: p :: fx) B H σ env := by
  have hm : ∀ r, r ∈ q :: p :: fx → r ∈ p :: q :: fx := fun r hr => by
    simp only [List.mem_cons] at hr ⊢
    rcases hr with h | h | h
    · exact .inr (.inl h)
    · exact .inl h
    · exact .inr (.inr h)
  refine ⟨⟨S.h.sub, S.h.old, S.h.b0, S.h.new, fun r hr => S.h.kept r (hm r hr), ?_⟩, S.len, S.slot, S.inj, fun r hr => S.fxo r (hm r hr)⟩
  have nd := S.h.nd
  simp only [List.map_cons, List.nodup_cons, List.mem_cons, not_or] at nd ⊢
  exact ⟨⟨fun h => nd.1.1 h.symm, nd.2.1⟩, nd.1.2, nd.2.2⟩
end
def itmsD (en : Bool) (ds : List PyData) : List PyData := if en = true then enumF 0 ds else ds
def ItJ (K : PySem.W.Frag) (en : Bool) (a : Addr) : It := if en = true then Ite K a else Itl K a
def iOwn (en : Bool) (K : PySem.W.Frag) (j : Nat) : TI := fun σ H R => ∃ a xs, σ[j]? = some (some (V.ref a)) ∧ SqL K H a xs ∧ R (ItJ K en a) H
theorem itOwn {K : PySem.W.Frag} {H0 B0 B H : Hp} {fx : List (Addr × HO)} {σ : L2.St} {env : Ev} {en w : Bool} {a : Addr} {xs : List V} {ds : List PyData} (hw : en = true → w = true) (S : Sim K H0 B0 fx B H σ env) (hH : SqL K H a xs) (r : Reps K B xs ds) (i : Nat) :
    ((itmsD en ds).length ≤ i → (ItJ K en a).stop i H) ∧ ∀ d, (itmsD en ds)[i]? = some d → (ItJ K en a).go i H ∧ ∀ x H', (ItJ K en a).yld i H x H' → ∃ B', Same B B' ∧ Sim K H0 B0 fx B' H' σ env ∧ RepW w K B' x d := by
  cases en with
  | false =>
    show (ds.length ≤ i → (Itl K a).stop i H) ∧ ∀ d, ds[i]? = some d → (Itl K a).go i H ∧ ∀ x H', (Itl K a).yld i H x H' → ∃ B', Same B B' ∧ Sim K H0 B0 fx B' H' σ env ∧ RepW w K B' x d
    refine ⟨fun hl => ⟨xs, hH, by rw [r.length]; exact hl⟩, fun d hd => ?_⟩
    obtain ⟨v, hv, rv⟩ := r.get hd
    refine ⟨⟨xs, v, hH, hv⟩, fun x H' ⟨e, y⟩ => ?_⟩
    subst e
    have e2 := y xs hH
    rw [hv] at e2; cases e2
    exact ⟨B, Same.refl B, S, .inl rv⟩
  | true =>
    obtain rfl := hw rfl
    show ((enumF 0 ds).length ≤ i → (Ite K a).stop i H) ∧ ∀ d, (enumF 0 ds)[i]? = some d → (Ite K a).go i H ∧ ∀ x H', (Ite K a).yld i H x H' → ∃ B', Same B B' ∧ Sim K H0 B0 fx B' H' σ env ∧ RepW true K B' x d
    refine ⟨fun hl => ⟨xs, hH, by rw [r.length]; rw [enumF_length] at hl; exact hl⟩, fun d hd => ?_⟩
    rw [enumF_get] at hd
    cases q : ds[i]? with
    | none => rw [q] at hd; cases hd
    | some d' =>
      rw [q] at hd; cases hd
      obtain ⟨v, hv, rv⟩ := r.get q
      refine ⟨⟨xs, v, hH, hv⟩, fun x H' ⟨T, y, e1, hT, e2, hy⟩ => ?_⟩
      subst e1 e2
      have e3 := hy xs hH
      rw [hv] at e3; cases e3
      have sB : Same B (upd B T (.tup [.int (i : Nat), v])) := same_upd (none_of_same S.h.sub hT)
      refine ⟨_, sB, S.alloc hT, .inr ⟨rfl, _, _, _, rfl, rfl, SqT.of upd_same, (.cons ?_ (.cons (rv.mono sB) .nil))⟩⟩
      rw [Nat.zero_add]
      exact .int _
def dcJ (en : Bool) (j : Nat) (tg : TgF) (fk fv : M PyData) (vs : List Nat) (env : Ev) : Option (List (PyData × PyData) × Ev) := match env[j]? with
  | some (.ob (.lst ds)) => match dcL tg fk fv vs (itmsD en ds) [] (env.set j .und) with
    | some (ps, e') => some (ps, (backE (env.set j .und) e' vs).set j (.ob (.lst ds)))
    | none => none
  | _ => none
def sSetDE (i : Nat) (en : Bool) (j : Nat) (tg : TgF) (fk fv : M PyData) (vs : List Nat) : MS := fun env => match dcJ en j tg fk fv vs env with
  | some (ps, e) => some (.nx (e.set i (.ob (.dic ps))))
  | none => none
section
variable {X : Cx} {W : WX}
theorem deRun {w en : Bool} {i j : Nat} {vs : List Nat} {tg : TgF} {fk fv : M PyData} {sl : List Nat} (hw : en = true → w = true) (hsl : ∀ s ∈ sl, s ∈ vs) : ∀ D σ H, tS X W (sSetDE i en j tg fk fv vs) D σ H →
    tAsg (tDcX X.K (iOwn en X.K j) (tG X w sl tg) (tD X W0 fk) (tD X W0 fv) vs) (gName i) D σ H := by
  intro D0 σ H ⟨H0, B0, fx, B, env, rr, S, hr, post⟩
  unfold sSetDE at hr
  split at hr
  · rename_i qs e2 hJ
    cases hr
    unfold dcJ at hJ
    split at hJ
    · rename_i ds0 hj
      split at hJ
      · rename_i ps e' hL
        cases hJ
        obtain ⟨p, xs, h1, h2, h3, h4, rx⟩ := S.own hj
        have S1 := S.takeOb hj h1 h2 h3 h4
        have eσ : σ.set j (some (V.ref p)) = σ := by
          have hl : j < σ.length := by
            rcases Nat.lt_or_ge j σ.length with h | h
            · exact h
            · rw [List.getElem?_eq_none h] at h1; cases h1
          rw [List.getElem?_eq_getElem hl] at h1
          have h1 := Option.some.inj h1
          rw [← h1]
          exact List.set_getElem_self hl
        show tDcX X.K (iOwn en X.K j) (tG X w sl tg) (tD X W0 fk) (tD X W0 fv) vs σ H fun x H1 => gName i x σ H1 D0.nx
        refine ⟨p, xs, h1, SqL.of h2, fun D hD => ?_⟩
        generalize hds : itmsD en ds0 = ds at *
        refine ⟨fun i m H => ∃ ps u0 e B2, Sim X.K H0 B0 ((D, u0) :: (p, .lst xs) :: fx) B2 H (L2.wipe σ vs) (wipeE e vs) ∧ RepC X.K B2 D u0 (.dic ps) ∧ Same B B2 ∧ m = ds.length - i ∧ i ≤ ds.length ∧ dcL tg fk fv vs (ds.drop i) ps e = some (qs, e'), ⟨ds.length, [], _, _, B, (S1.fresh hD).wipe vs, .dK (by simp) .nil, Same.refl B, by simp, Nat.zero_le _, hL⟩, ?_⟩
        rintro i' m H2 ⟨ps, u0, e, B2, S2, r2, s2, rfl, hi, hc⟩
        have hp2 : H2 p = some (.lst xs) := (S2.h.kept (p, .lst xs) (by simp)).1
        obtain ⟨io1, io2⟩ := itOwn (en := en) (w := w) hw S2 (SqL.of hp2) (rx.mono s2) i'
        rw [hds] at io1 io2
        by_cases hlt : i' < ds.length
        · rw [List.drop_eq_getElem_cons hlt] at hc
          obtain ⟨go, yld⟩ := io2 ds[i'] (List.getElem?_eq_getElem hlt)
          refine .inr ⟨go, fun H' => ∃ ps u0 e B2, Sim X.K H0 B0 ((D, u0) :: (p, .lst xs) :: fx) B2 H' (L2.wipe σ vs) (wipeE e vs) ∧ RepC X.K B2 D u0 (.dic ps) ∧ Same B B2 ∧ dcL tg fk fv vs (ds.drop (i' + 1)) ps e = some (qs, e'), fun H' ⟨ps, u0, e, B3, S3, r3, s3, c3⟩ => ⟨_, by omega, ps, u0, e, B3, S3, r3, s3, rfl, hlt, c3⟩, fun x H3 y => ?_⟩
          obtain ⟨B3, s3, S3, r3⟩ := yld x H3 y
          unfold dcL at hc
          split at hc
          · cases hc
          · rename_i ea ha
            refine ⟨H0, B0, _, B3, _, ea, _, S3, r3, ha, fun σ' S4 w4 => ?_⟩
            have w4' : L2.wipe σ' vs = L2.wipe σ vs := by
              rw [w4 vs hsl]
              exact wipe_sub _ fun i h => h
            refine ⟨w4', ?_⟩
            split at hc
            · rename_i kd eb hkd
              refine ⟨H0, B0, _, B3, ea, _, S4, hkd, fun v1 H5 B5 s5 S5 r5 => ?_⟩
              split at hc
              · rename_i vd ec hvd
                refine ⟨H0, B0, _, B5, eb, _, S5, hvd, fun v2 H6 B6 s6 S6 r6 => ?_⟩
                split at hc
                · rename_i q hq
                  split at hc
                  · rename_i hz
                    have rA := ((r2.mono s3).mono s5).mono s6
                    refine ⟨B6, u0, ps, kd, vd, q, S6.h.sub, (S6.h.kept (D, u0) List.mem_cons_self).1, rA, r5.mono s6, r6, hq, hz.1, hz.2, fun u1 rc => ?_⟩
                    exact ⟨_, u1, ec, B6, wipeE_wipe (S6.write) w4', rc, ((s2.trans s3).trans s5).trans s6, hc⟩
                  · cases hc
                · cases hc
              · cases hc
            · cases hc
        · have e0 : i' = ds.length := by omega
          subst e0
          rw [List.drop_length] at hc
          cases hc
          refine .inl ⟨io1 (Nat.le_refl _), ?_⟩
          have S3 := (S1.back s2 S2).swapFx
          have S4 := S3.setOb (i := j) (.lst (rx.mono s2))
          rw [eσ] at S4
          exact post _ H2 B2 s2 (S4.setOb r2)
      · cases hJ
    · cases hJ
  · cases hr
theorem pi_ownL {tg : Expr} {j : Nat} {x : PySem.Str} {p : Pos} (hx : X.N[j]? = some x) (hv : Vis X.env.scope x) (hd : (x == ("__debug__" : PySem.Str)) = false) (hcd : (x == ("__classdict__" : PySem.Str)) = false) : PI X tg (.Name x p) (iOwn false X.K j) :=
  (pi_list (pe_var hx hv hd hcd)).imp fun σ H R ⟨a, xs, h1, h2, h3⟩ => ⟨.ref a, h1, a, rfl, ⟨xs, h2⟩, h3⟩
theorem pi_ownE {j : Nat} {x : PySem.Str} {p p2 pos tpos : Pos} {elts : List Expr} {kk : Nat} (hg : Gl X "enumerate") (hm : X.mg "enumerate" = none) (hx : X.N[j]? = some x) (hv : Vis X.env.scope x) (hd : (x == ("__debug__" : PySem.Str)) = false) (hcd : (x == ("__classdict__" : PySem.Str)) = false) :
    PI X (.Tuple elts kk tpos) (.Call (.Name "enumerate" p2) [.Name x p] [] pos) (iOwn true X.K j) :=
  (pi_enum hg hm (pa_cons (pe_var hx hv hd hcd) pa_nil rfl) rfl).imp fun σ H R ⟨a, xs, h1, h2, h3⟩ => ⟨.ref a, h1, a, xs, rfl, h2, h3⟩
theorem setDE_ok {en : Bool} {i j : Nat} {y : PySem.Str} {py : Pos} {kx vx tgE iter : Expr} {scope : Scope} {own : List (PySem.Str × Nat)} {pos spos : Pos} {tg : TgF} {sl : List Nat} {fk fv : M PyData} (hu : X.A.units + 65 < cLine) (hc : X.calm = true) (hN : X.N.Nodup) (hy : X.N[i]? = some y)
    (hyl : X.env.scope.names.lookup y = some .local) (hsw : swapsWith (.DictComp kx vx [⟨tgE, iter, [], 0⟩] scope pos) (some (.Name y py)) spos.line X.env = pure true) (hi : PI X tgE iter (iOwn en X.K j)) (hw : en = true → twE tgE = true) (ok : BlkOk X.N X.env.scope scope own)
    (hg : ∀ s H C cl fp, PG (blkX X scope s H C cl fp) tgE (tG (blkX X scope s H C cl fp) (twE tgE) sl tg)) (hsl : ∀ s ∈ sl, s ∈ own.map (·.2)) (hk : ∀ s H C cl fp, PE (blkX X scope s H C cl fp) kx (tD (blkX X scope s H C cl fp) W0 fk))
    (hv : ∀ s H C cl fp, PE (blkX X scope s H C cl fp) vx (tD (blkX X scope s H C cl fp) W0 fv)) (hs : ∀ x, foldedSetIterable iter X.env x = pure x) :
    PS X (.Assign [.Name y py] (.DictComp kx vx [⟨tgE, iter, [], 0⟩] scope pos) spos) (tS X W (sSetDE i en j tg fk fv (own.map (·.2)))) :=
  (ps_setDcx hu hc hN hy hyl hsw hi ok hg hk hv hs).imp fun D σ H h => deRun hw hsl D σ H h
end
end PyI

namespace PyI
open PySem PySem.Spec L2 PyProof.Rows
/-! # calls whose result is new and the caller's own -/
abbrev CFF := List PyData → Option Cn
def spF (K : PySem.W.Frag) (np : Nat) (cf : CFF) : Sp := fun vs H Q E => vs.length = np ∧ ∃ B ds c, Same B H ∧ Reps K B vs ds ∧ cf ds = some c ∧ ∀ p u H' B', Same H H' → Same B B' → Same B' H' → (∀ a o, B' a = some o → B a = some o ∨ H a = none) →
  H' p = some u → B' p = none → H p = none → RepC K B' p u c → Q (.ref p) H'
structure FnF (X : Cx) (n : Nat) (x : PySem.Str) (np : Nat) (cf : CFF) : Prop where
  ex : ∃ (f : Addr) (fd : FuncData) (ps : List PySem.Str), FnOk X.prog X.w X.K X.mg X.base (L2.CX X.prog X.w) n f fd ps (spF X.K np cf) ∧ X.mg x = some (.ref f) ∧ PySem.W.keepIn X.K (.ref f) = true ∧ Binds X.K fd ps []
def fCallF (np : Nat) (cf : CFF) (g : M (List Opd)) : M (PyData × Bool) := fun env => bnd (g env) fun os e =>
  match getOs e os with
  | some ds => if ds.length = np then
      match cf ds with
      | some c => some (.ok (cD c, true) (frzAll os e))
      | none => none
    else none
  | none => none
/-- a new thing is set aside -/
theorem Sim.aside {K : PySem.W.Frag} {H0 B0 B H : Hp} {fx : List (Addr × HO)} {σ : L2.St} {env : Ev} {Hb : Hp} (S : Sim K H0 B0 fx B H σ env) (old : Sim K H0 B0 fx B Hb σ env ∨ True) {p : Addr} {u : HO} (h1 : H p = some u) (h2 : B p = none) (h3 : H0 p = none) (hf : ∀ q ∈ fx, q.1 ≠ p) (hs : ∀ (i : Nat) (c : Cn), env[i]? = some (.ob c) → σ[i]? ≠ some (some (V.ref p))) :
    Sim K H0 B0 ((p, u) :: fx) B H σ env := by
  refine ⟨⟨S.h.sub, S.h.old, S.h.b0, S.h.new, fun q hq => ?_, ?_⟩, S.len, S.slot, S.inj, fun q hq i xs ei => ?_⟩
  · rcases List.mem_cons.mp hq with rfl | hq
    · exact ⟨h1, h2, h3⟩
    · exact S.h.kept q hq
  · rw [List.map_cons, List.nodup_cons]
    refine ⟨fun hm => ?_, S.h.nd⟩
    obtain ⟨q, hq, e1⟩ := List.mem_map.mp hm
    exact hf q hq e1
  · rcases List.mem_cons.mp hq with rfl | hq
    · exact hs i xs ei
    · exact S.fxo q hq i xs ei
section
variable {X : Cx} {W : WX}
theorem callF_of {np : Nat} {cf : CFF} {g : M (List Opd)} : ∀ σ H Q, tE X W (fCallF np cf g) σ H Q → tCallS (spF X.K np cf) (WE W) (tA X W g) σ H Q := by
  intro σ H Q ⟨H0, B0, fx, B, env, rr, S, hr, post⟩
  unfold fCallF at hr
  rcases bnd_some hr with ⟨os, e1, k1, k2⟩ | ⟨c, e1, k1, rfl⟩
  · refine ⟨H0, B0, fx, B, env, _, S, k1, fun vs H1 B1 s1 S1 o1 => ?_⟩
    split at k2
    · rename_i ds hd
      have ro := o1.get S1 hd
      split at k2
      · rename_i hn
        refine ⟨by rw [ro.length]; exact hn, ?_⟩
        split at k2
        · rename_i c hc
          cases k2
          obtain ⟨B2, s2, S2, r2⟩ := S1.frzAll o1 hd
          refine ⟨B2, ds, _, S2.h.sub, r2, hc, fun p u H' B' sH sB sub new hp hb ho rc => ?_⟩
          have S3 := S2.after sH sB sub new
          refine post p u c H' B' rfl ((s1.trans s2).trans sB) (S3.aside (.inr trivial) (Hb := H') hp hb (none_of_same S2.h.old ho) (fun q hq z => ?_) (fun i c ei z => ?_)) rc
          · have := (S2.h.kept q hq).1
            rw [z, ho] at this; cases this
          · obtain ⟨p', u', a1, a2, _⟩ := S2.ob ei
            rw [z] at a1; cases a1
            rw [ho] at a2; cases a2
        · cases k2
      · cases k2
    · cases k2
  · exact ⟨H0, B0, fx, B, env, _, S, k1, post⟩
theorem callF_ok {n np : Nat} {x : PySem.Str} {cf : CFF} {g : M (List Opd)} {e : Expr} {es : List Expr} {p pos : Pos} (F : FnF X n x np cf) (hr : Room n X.A) (tk : Takes X W) (hg : Gl X x) (hdb : (x == ("__debug__" : PySem.Str)) = false)
    (ha : PA X (e :: es) (tA X W g)) (he : starEach (e :: es) X.env = (false, eval e X.env) :: starEach es X.env) (hpl : (backTo pos (starEach es X.env)).any (·.1) = false) : PE X (.Call (.Name x p) (e :: es) [] pos) (tE X W (fCallF np cf g)) := by
  obtain ⟨f, fd, ps, F1, hm, hk, hb⟩ := F.ex
  exact (pe_callS F1 hr hg hm hk hb (fun σ => passAt tk σ) ha hdb he hpl).imp callF_of
/-- return e, e new -/
def PostF (X : Cx) (H0 B0 : Hp) (fx : List (Addr × HO)) (B : Hp) (D : Ends) (c : Cn) : Prop := ∀ p u H' B', Same B B' → HSim H0 B0 ((p, u) :: fx) B' H' → RepC X.K B' p u c → D.rt (.ref p) H'
def tSF (X : Cx) (f : Ev → Option Cn) : TS := fun D σ H => ∃ H0 B0 fx B env c, Sim X.K H0 B0 fx B H σ env ∧ f env = some c ∧ PostF X H0 B0 fx B D c
def frR (f : M (PyData × Bool)) (env : Ev) : Option Cn := match f env with
  | some (.ok (.list xs, true) _) => some (.lst xs)
  | some (.ok (.dict ps, true) _) => some (.dic ps)
  | _ => none
def frV (i : Nat) (env : Ev) : Option Cn := match env[i]? with
  | some (.ob c) => some c
  | _ => none
theorem retF_ok {e : Expr} {pos : Pos} {f : M (PyData × Bool)} (h : PE X e (tE X W f)) : PS X (.Return (some e) pos) (tSF X (frR f)) :=
  (ps_ret h).imp fun D σ H ⟨H0, B0, fx, B, env, c, S, hr, post⟩ => by
    unfold frR at hr
    split at hr
    · rename_i xs e1 k
      cases hr
      refine ⟨H0, B0, fx, B, env, _, S, k, fun p u c H' B' e s' S' rc => ?_⟩
      obtain rfl : c = .lst xs := by cases c <;> cases e; rfl
      exact post p u H' B' s' S'.h rc
    · rename_i ps e1 k
      cases hr
      refine ⟨H0, B0, fx, B, env, _, S, k, fun p u c H' B' e s' S' rc => ?_⟩
      obtain rfl : c = .dic ps := by cases c <;> cases e; rfl
      exact post p u H' B' s' S'.h rc
    · cases hr
theorem retV_ok {i : Nat} {x : PySem.Str} {p pos : Pos} (hx : X.N[i]? = some x) (hv : Vis X.env.scope x) (hd : (x == ("__debug__" : PySem.Str)) = false) (hcd : (x == ("__classdict__" : PySem.Str)) = false) : PS X (.Return (some (.Name x p)) pos) (tSF X (frV i)) :=
  (ps_ret (pe_var hx hv hd hcd)).imp fun D σ H ⟨H0, B0, fx, B, env, c, S, hr, post⟩ => by
    unfold frV at hr
    split at hr
    · rename_i c' e
      cases hr
      obtain ⟨p, u, h1, h2, h3, h4, rc⟩ := S.ob e
      exact ⟨.ref p, h1, post p u H B (Same.refl B) (S.takeOb e h1 h2 h3 h4).h rc⟩
    · cases hr
theorem seqF_ok {st : Stmt} {rest : List Stmt} {f : MS} {g : Ev → Option Cn} (h1 : PS X st (tS X W f)) (h2 : PSs X rest (tSF X g)) : PSs X (st :: rest) (tSF X fun env => match f env with | some (.nx e) => g e | _ => none) :=
  (pss_cons h1 h2).imp fun D σ H ⟨H0, B0, fx, B, env, c, S, hr, post⟩ => by
    have hr : (match f env with | some (.nx e) => g e | _ => none) = some c := hr
    split at hr
    · rename_i e1 k
      exact ⟨H0, B0, fx, B, env, _, S, k, fun σ' H' B' s' S' => ⟨H0, B0, fx, B', e1, c, S', hr, fun p u H2 B2 s2 h2 rc => post p u H2 B2 (s'.trans s2) h2 rc⟩⟩
    · cases hr
theorem oneF_ok {st : Stmt} {g : Ev → Option Cn} (h : PS X st (tSF X g)) : PSs X [st] (tSF X g) :=
  (pss_cons h pss_nil).imp fun D σ H ⟨H0, B0, fx, B, env, c, S, hr, post⟩ => ⟨H0, B0, fx, B, env, c, S, hr, post⟩
end
end PyI

namespace PyI
open PySem PySem.Spec L2 PyProof.Rows
/-! # for .. in xs: d[k] = v, xs a slot's own list, which stays its own -/
/-- a statement that binds no name -/
def PostK (X : Cx) (W : WX) (H0 B0 : Hp) (fx : List (Addr × HO)) (B : Hp) (σ : L2.St) (D : Ends) : So → Prop
  | .nx e => ∀ H' B', Same B B' → Sim X.K H0 B0 fx B' H' σ e → D.nx σ H'
  | .brk e => ∀ H' B', Same B B' → Sim X.K H0 B0 fx B' H' σ e → D.bk σ H'
  | .cnt e => ∀ H' B', Same B B' → Sim X.K H0 B0 fx B' H' σ e → D.ct σ H'
  | .ret d => ∀ v H' B', Same B B' → HSim H0 B0 fx B' H' → Rep X.K B' v d → D.rt v H'
  | .exc c e => ∀ σ' H' B' a, Same B B' → Sim X.K H0 B0 fx B' H' σ' e → X.mg c = some (.ref a) → W (.ref a) none σ' H'
def tSk (X : Cx) (W : WX) (f : MS) : TS := fun D σ H => ∃ H0 B0 fx B env r, Sim X.K H0 B0 fx B H σ env ∧ f env = some r ∧ PostK X W H0 B0 fx B σ D r
section
variable {X : Cx} {W : WX}
theorem sub_okK {i : Nat} {x : PySem.Str} {k e : Expr} {p ps pos : Pos} {fk fv : M PyData} (hu : X.A.units + 65 < cLine) (hN : X.N[i]? = some x) (hv : Vis X.env.scope x) (hd : (x == ("__debug__" : PySem.Str)) = false) (hcd : (x == ("__classdict__" : PySem.Str)) = false)
    (hk : PE X k (tD X W fk)) (he : PE X e (tD X W fv)) (hs : swapsWithSole [.Subscript (.Name x p) k ps] e pos.line X.env = pure false) (hw : swappedStores [.Subscript (.Name x p) k ps] e X.env = pure none)
    (h1 : (assignEach [.Subscript (.Name x p) k ps] X.env).map (·.2) = [assign (.Subscript (.Name x p) k ps) X.env])
    (ha : ∀ v, assign (.Subscript (.Name x p) k ps) X.env v = (do
      let ov ← holding [v] (eval (.Name x p) X.env)
      let iv ← holding [v, ov] (eval k X.env)
      standAt ps
      holding [v, ov, iv] (setItem ov iv v)
      release [v, ov, iv] [])) : PS X (.Assign [.Subscript (.Name x p) k ps] e pos) (tSk X W (sSub i fk fv)) :=
  (ps_asg he (pg_sub (pe_var hN hv hd hcd) hk (pset_or set_list (set_dic hu)) ha) hs hw h1).imp fun D σ H ⟨H0, B0, fx, B, env, r, S, hr, post⟩ => by
    unfold sSub at hr
    rcases exK_some hr with ⟨d, e1, k1, k2⟩ | ⟨c, e1, k1, rfl⟩
    · refine ⟨H0, B0, fx, B, env, _, S, k1, fun v H1 B1 s1 S1 r1 => ?_⟩
      split at k2
      · rename_i ds0 h0
        obtain ⟨p, vs, a1, a2, a3, a4, ra⟩ := S1.ob h0
        refine ⟨.ref p, a1, ?_⟩
        rcases exK_some k2 with ⟨k, e2, k3, k4⟩ | ⟨c, e2, k3, rfl⟩
        · refine ⟨H0, B0, fx, B1, e1, _, S1, k3, fun kv H2 B2 s2 S2 r2 => ?_⟩
          split at k4
          · rename_i ds h2
            split at k4
            · rename_i kk
              split at k4
              · rename_i j hj
                cases k4
                obtain ⟨p', vs', b1, b2, b3, b4, rb⟩ := S2.own h2
                rw [a1] at b1; cases b1
                cases r2
                refine .inl ⟨p, vs', kk, j, rfl, rfl, b2, by rw [rb.length]; exact hj, ?_⟩
                exact post _ B2 (s1.trans s2) (S2.wrSlot h2 a1 (Reps.set (r1.mono s2) j rb))
              · cases k4
            · cases k4
          · rename_i ps h2
            split at k4
            · rename_i q hq
              split at k4
              · rename_i hc
                cases k4
                obtain ⟨p', u', b1, b2, b3, b4, rb⟩ := S2.ob h2
                rw [a1] at b1; cases b1
                exact .inr ⟨B2, p, u', ps, k, d, q, rfl, S2.h.sub, b2, rb, r2, r1.mono s2, hq, hc.1, hc.2, fun u1 rc => post _ B2 (s1.trans s2) (S2.wrOb h2 a1 rc)⟩
              · cases k4
            · cases k4
          · cases k4
        · exact ⟨H0, B0, fx, B1, e1, _, S1, k3, fun H' B' a s' S' hm => post σ H' B' a (s1.trans s') S' hm⟩
      · cases k2
    · exact ⟨H0, B0, fx, B, env, _, S, k1, fun H' B' a s' S' hm => post σ H' B' a s' S' hm⟩
theorem suite1 {st : Stmt} {f : MS} (h : PS X st (tSk X W f)) : PSs X [st] (tSk X W f) := (pss_cons h pss_nil).imp fun D σ H h => h
def sForO (j : Nat) (tg : TgF) (body : MS) : MS := fun env => match env[j]? with
  | some (.ob (.lst ds)) => match forL tg body ds (env.set j .und) with
    | some (.nx e) => some (.nx (e.set j (.ob (.lst ds))))
    | _ => none
  | _ => none
theorem set_self {σ : L2.St} {j : Nat} {v : Option V} (h : σ[j]? = some v) : σ.set j v = σ := by
  have hl : j < σ.length := by
    rcases Nat.lt_or_ge j σ.length with q | q
    · exact q
    · rw [List.getElem?_eq_none q] at h; cases h
  rw [List.getElem?_eq_getElem hl] at h
  have h := Option.some.inj h
  rw [← h]
  exact List.set_getElem_self hl
theorem forO_ok {j : Nat} {x : PySem.Str} {p pos : Pos} {tgE : Expr} {body : List Stmt} {tg : TgF} {sl : List Nat} {f : MS} (hp : PassesOwn (model X.prog X.w) X.A X.env X.xe) (hc : X.calm = true)
    (hx : X.N[j]? = some x) (hv : Vis X.env.scope x) (hd : (x == ("__debug__" : PySem.Str)) = false) (hcd : (x == ("__classdict__" : PySem.Str)) = false)
    (hg : PG X tgE (tG X (twE tgE) sl tg)) (hj : j ∉ sl) (hb : PSs X body (tSk X W f)) : PS X (.For tgE (.Name x p) body [] pos) (tS X W (sForO j tg f)) :=
  (ps_for hp hc (pi_ownL hx hv hd hcd) hg hb (fun _ => rfl)).imp fun D σ H ⟨H0, B0, fx, B, env, r, S, hr, post⟩ => by
    unfold sForO at hr
    split at hr
    · rename_i ds hj0
      split at hr
      · rename_i e' hL
        cases hr
        obtain ⟨p, xs, h1, h2, h3, h4, rx⟩ := S.own hj0
        have S1 := S.takeOb hj0 h1 h2 h3 h4
        have fin : ∀ {σ' : L2.St} {H' B' : Hp}, Same B B' → Sim X.K H0 B0 ((p, .lst xs) :: fx) B' H' σ' e' → σ'[j]? = some (some (V.ref p)) → D.nx σ' H' := fun {σ' H' B'} s' S' hσ => by
          have S4 := S'.setOb (i := j) (.lst (rx.mono s'))
          rw [set_self hσ] at S4
          exact post σ' H' B' s' S4
        refine ⟨p, xs, h1, SqL.of h2, ?_⟩
        refine ⟨fun i m σ2 H2 => ∃ e B2, Sim X.K H0 B0 ((p, .lst xs) :: fx) B2 H2 σ2 e ∧ σ2[j]? = some (some (V.ref p)) ∧ Same B B2 ∧ m = ds.length - i ∧ i ≤ ds.length ∧ forL tg f (ds.drop i) e = some (.nx e'), ⟨ds.length, env.set j .und, B, S1, h1, Same.refl B, by simp, Nat.zero_le _, hL⟩, ?_⟩
        rintro i m σ2 H2 ⟨e, B2, S2, hσ, s2, rfl, hi, hf⟩
        have hp2 : H2 p = some (.lst xs) := (S2.h.kept (p, .lst xs) (by simp)).1
        obtain ⟨io1, io2⟩ := itOwn (en := false) (w := twE tgE) (fun z => nomatch z) S2 (SqL.of hp2) (rx.mono s2) i
        by_cases hlt : i < ds.length
        · rw [List.drop_eq_getElem_cons hlt] at hf
          obtain ⟨go, yld⟩ := io2 ds[i] (List.getElem?_eq_getElem hlt)
          refine .inr ⟨go, fun σ' H' => ∃ e B2, Sim X.K H0 B0 ((p, .lst xs) :: fx) B2 H' σ' e ∧ σ'[j]? = some (some (V.ref p)) ∧ Same B B2 ∧ forL tg f (ds.drop (i + 1)) e = some (.nx e'), fun σ' H' ⟨e, B3, S3, hσ3, s3, c3⟩ => ⟨_, by omega, e, B3, S3, hσ3, s3, rfl, hlt, c3⟩, fun x H3 y => ?_⟩
          obtain ⟨B3, s3, S3, r3⟩ := yld x H3 y
          unfold forL at hf
          split at hf
          · cases hf
          · rename_i ea ha
            refine ⟨H0, B0, _, B3, _, ea, _, S3, r3, ha, fun σ' S4 w4 => ?_⟩
            have hσ4 : σ'[j]? = some (some (V.ref p)) := by
              have := congrArg (fun l : L2.St => l[j]?) (w4 sl fun s h => h)
              simp only [wipe_get, if_neg hj] at this
              rw [this]; exact hσ
            cases q : f ea with
            | none => rw [q] at hf; cases hf
            | some rb =>
              rw [q] at hf
              refine ⟨H0, B0, _, B3, ea, rb, S4, q, ?_⟩
              cases rb with
              | nx e2 => exact fun H5 B5 s5 S5 => ⟨e2, B5, S5, hσ4, (s2.trans s3).trans s5, hf⟩
              | cnt e2 => exact fun H5 B5 s5 S5 => ⟨e2, B5, S5, hσ4, (s2.trans s3).trans s5, hf⟩
              | brk e2 => cases hf; exact fun H5 B5 s5 S5 => fin ((s2.trans s3).trans s5) S5 hσ4
              | ret d => cases hf
              | exc c e2 => cases hf
        · have e0 : i = ds.length := by omega
          subst e0
          rw [List.drop_length] at hf
          cases hf
          exact .inl ⟨io1 (Nat.le_refl _), fin s2 S2 hσ⟩
      · cases hr
    · cases hr
end
/-- a if t else b, as a test -/
def fIfT (t f g : M Bool) : M Bool := fun env => bnd (t env) fun b e => if b = true then f e else g e
section
variable {X : Cx} {W : WX}
def tIfT (t ta tb : TT) : TT := fun σ H Q => t σ H fun c H1 => if c = true then ta σ H1 Q else tb σ H1 Q
theorem pt_ifExp {c a b : Expr} {pos : Pos} {t ta tb : TT} (hc : PT X c t) (ha : PT X a ta) (hb : PT X b tb) : PT X (.IfExp c a b pos) (tIfT t ta tb) := by
  refine ⟨fun pins s σ H Q I h => ?_⟩
  refine isTrue_IfExp (thn (hc.run pins s σ H _ I h) fun d s1 ⟨H1, I1, q1⟩ => ?_)
  cases d with
  | true => exact ha.run pins s1 σ H1 Q I1 q1
  | false => exact hb.run pins s1 σ H1 Q I1 q1
theorem ifT_ok {c a b : Expr} {pos : Pos} {t f g : M Bool} (hc : PT X c (tT X W t)) (ha : PT X a (tT X W f)) (hb : PT X b (tT X W g)) : PT X (.IfExp c a b pos) (tT X W (fIfT t f g)) :=
  (pt_ifExp hc ha hb).imp fun σ H Q ⟨H0, B0, fx, B, env, rr, S, hr, post⟩ => by
    unfold fIfT at hr
    rcases bnd_some hr with ⟨b, e1, k1, k2⟩ | ⟨c, e1, k1, rfl⟩
    · refine ⟨H0, B0, fx, B, env, _, S, k1, fun H1 B1 s1 S1 => ?_⟩
      have fin : ∀ r, PostT X W H0 B0 fx B σ Q r → PostT X W H0 B0 fx B1 σ Q r := by
        intro r post
        cases r with
        | ok b' e2 => exact fun H' B' s2 S2 => post H' B' (s1.trans s2) S2
        | exc c e2 => exact fun H' B' a s2 S2 hm => post H' B' a (s1.trans s2) S2 hm
      show (if b = true then tT X W f σ H1 Q else tT X W g σ H1 Q)
      by_cases hb : b = true
      · rw [if_pos hb] at k2 ⊢
        exact ⟨H0, B0, fx, B1, e1, rr, S1, k2, fin _ post⟩
      · rw [if_neg hb] at k2 ⊢
        exact ⟨H0, B0, fx, B1, e1, rr, S1, k2, fin _ post⟩
    · exact ⟨H0, B0, fx, B, env, _, S, k1, post⟩
end
end PyI

namespace PyI
open PySem PySem.Spec L2 PyProof.Rows
/-! ### reversed(range(n)) -/
def iRevR (f : M PyData) : M (List PyData) := fun env => bnd (f env) fun d e =>
  match d with
  | .int n => if -(2 ^ 62) ≤ n ∧ n < 2 ^ 62 then some (.ok ((List.range n.toNat).map fun (k : Nat) => .int ((n.toNat : Int) - 1 - k)) e) else none
  | _ => none
section
variable {K : PySem.W.Frag} {B1 : Hp} {w : Bool}
theorem itRevR (n : Int) : ItOk w K B1 (Itc (0 + (((n - 0).toNat : Nat) : Int) - 1) (-1) (n - 0).toNat) ((List.range n.toNat).map fun (k : Nat) => .int ((n.toNat : Int) - 1 - k)) := fun H0 B0 fx B H σ env i s S => by
  have en : (n - 0).toNat = n.toNat := by rw [Int.sub_zero]
  rw [en]
  refine ⟨fun hl => ?_, fun d hd => ?_⟩
  · rw [List.length_map, List.length_range] at hl; exact hl
  · rw [List.getElem?_map] at hd
    cases q : (List.range n.toNat)[i]? with
    | none => rw [q] at hd; cases hd
    | some k =>
      rw [q] at hd; cases hd
      have hi : i < n.toNat := by
        rcases Nat.lt_or_ge i n.toNat with h | h
        · exact h
        · rw [List.getElem?_eq_none (by rw [List.length_range]; exact h)] at q; cases q
      rw [List.getElem?_range hi] at q; cases q
      refine ⟨hi, fun x H' ⟨e, y⟩ => ?_⟩
      subst e y
      have e : (0 : Int) + (n.toNat : Int) - 1 + ((i : Nat) : Int) * (-1) = (n.toNat : Int) - 1 - (i : Int) := by omega
      rw [e]
      exact ⟨B, Same.refl B, S, .inl (.int _)⟩
end
section
variable {X : Cx} {W : WX} {tg : Expr}
theorem irevr_ok {a : Expr} {p pos p2 pos2 : Pos} {f : M PyData} (hg : Gl X "reversed") (hm : X.mg "reversed" = none) (hg2 : Gl X "range") (hm2 : X.mg "range" = none) (h : PE X a (tD X W f)) (ha : starEach [a] X.env = [(false, eval a X.env)])
    (hs : starEach [.Call (.Name "range" p2) [a] [] pos2] X.env = [(false, eval (.Call (.Name "range" p2) [a] [] pos2) X.env)]) :
    PI X tg (.Call (.Name "reversed" p) [.Call (.Name "range" p2) [a] [] pos2] [] pos) (tI X W (twE tg) (iRevR f)) :=
  (pi_revR hg hm (prg_1 hg2 hm2 h ha) hs).imp fun σ H R ⟨H0, B0, fx, B, env, rr, S, hr, post⟩ => by
    unfold iRevR at hr
    rcases bnd_some hr with ⟨d, e1, k1, k2⟩ | ⟨c, e1, k1, rfl⟩
    · refine ⟨H0, B0, fx, B, env, _, S, k1, fun v H1 B1 s1 S1 r1 => ?_⟩
      split at k2
      · rename_i n
        split at k2
        · rename_i hn
          cases k2
          cases r1
          exact ⟨n, rfl, by decide, by decide, hn.1, hn.2, post _ H1 B1 s1 S1 (itRevR n)⟩
        · cases k2
      · cases k2
    · exact ⟨H0, B0, fx, B, env, _, S, k1, post⟩
end
end PyI

/-! # sorted(set(xs)), xs a tuple of pairs of small ints -/
namespace L2
open PySem PySem.Spec PyProof.Rows
section
variable {P : Program} {w : World} {A : Around} {E : Value → Shared → Prop} {s : Shared}
/-- set of a tuple of tuples of ints -/
theorem set_tupT {a : Addr} {its : Array Value} (ks : List (Addr × List Int)) {Q : Value → Shared → Prop} (hN : A.handled = none) (ha : s.heap.IsTuple a its) (hi : its.toList = ks.map fun p => Value.ref p.1)
    (hK : ∀ p ∈ ks, IsT P w s.heap p.2 p.1) (h64 : ks.length < 64) (hU : A.units + 3 < cLine)
    (fin : ∀ (h' : Heap) (tk : Nat) L es ep t, SetTR P w h' s.heap.objs.size L es ep t → Got ks ks.length L → (∀ b o, s.heap.get? b = some o → h'.get? b = some o) → Q (.ref s.heap.objs.size) { s with heap := h', toks := tk }) :
    wpAny (model P w) A (call (.type "set") [.ref a]) Q E s := by
  have lenI : its.size = ks.length := by rw [← Array.length_toList, hi, List.length_map]
  obtain ⟨c, tl, q_mro⟩ := F.called_set.mro
  have q_made := F.called_set.made; have q_sub := F.called_set.sub
  refine wpAny_call (codeAny_of_tree ?_); show wpAny _ _ (callAny (.type "set") _) _ _ _
  refine wpAny_pure ⟨Code.quiet_builtin _ (by decide +kernel), codeAny_builtin F.entry_type_call (?_ : _)⟩
  rw [Around.under_plain (weight_type_call_type "set" [.ref a] []) rfl]
  have q1 := F.called_set.notType; have q2 := F.called_set.canCreate; have q3 := F.typeCall_set_1 (.ref a)
  repeat (any_goals (first | assumption | wp_step))
  refine codeAny_mono (code_set_led1 (.ref a) (E := E) (Q₁ := fun o' s₁ => o' = .ref s.heap.objs.size ∧ s₁ = { s with heap := s.heap.push { cls := .type "set", dict := none, data := .set #[] 0 (.fresh 0 0 (!w.params.followText "set-order")) } }) ⟨rfl, rfl⟩) fun r s₁ hr => ?_
  cases r with
  | error e => exact hr
  | ok fl =>
    cases fl with
    | ret o' =>
      obtain ⟨rfl, rfl⟩ := hr
      have gS : (s.heap.push { cls := .type "set", dict := none, data := .set #[] 0 (.fresh 0 0 (!w.params.followText "set-order")) }).get? s.heap.objs.size = some { cls := .type "set", dict := none, data := .set #[] 0 (.fresh 0 0 (!w.params.followText "set-order")) } := Heap.get?_push_size _ rfl
      have tS : Shared.TypeIs { s with heap := s.heap.push { cls := .type "set", dict := none, data := .set #[] 0 (.fresh 0 0 (!w.params.followText "set-order")) } } (.ref s.heap.objs.size) "set" := ⟨_, gS, rfl⟩
      have l1 := F.called_set.init.lookup; have l2 := F.called_set.init.bind (.ref s.heap.objs.size)
      repeat (any_goals (first | assumption | wp_step))
      refine codeAny_mono (codeAny_call_builtin (R := wants (fun r s₂ => r = .none ∧ ∃ h' tk L es ep t, s₂ = { s with heap := h', toks := tk } ∧ SetTR P w h' s.heap.objs.size L es ep t ∧ Got ks ks.length L ∧ (∀ b o, s.heap.get? b = some o → h'.get? b = some o)) E) F.called_set.init.plain F.entry_set_init (check_set_init_1 tS ?_)) fun r₂ s₂ hr₂ => ?_
      · obtain ⟨⟨oc, od, odt, osl⟩, ho, hoc, on, hod⟩ := ha
        simp only at hoc hod
        subst hoc; subst hod
        have ho' : (s.heap.push { cls := .type "set", dict := none, data := .set #[] 0 (.fresh 0 0 (!w.params.followText "set-order")) }).get? a = some { cls := .type "tuple", dict := od, data := .seq its on, slots := osl } := Heap.get?_push_of_some _ ho
        have n1 := F.sub_tuple_set; have n2 := F.sub_tuple_frozenset
        have n3 : (Value.type "tuple" == Value.type "dict") = false := by decide
        have isT1 : (s.heap.push { cls := .type "set", dict := none, data := .set #[] 0 (.fresh 0 0 (!w.params.followText "set-order")) }).IsTuple a its := ⟨_, ho', rfl, on, rfl⟩
        unfold Builtin.«set.__init__» noKeywords Builtin.Frozenset.updateFrom
        generalize hPy : pyIter = Py
        wp_walk
        subst hPy
        refine wpAny_pyIter_tuple isT1 (wpAny_bind (wpAny_runValue ?_))
        have lt1 : a < s.heap.objs.size := Heap.lt_size ho
        have nh3 : A.in1.in1.in1.handled = none := by simp [hN]
        have sz1 : (s.heap.push { cls := .type "set", dict := none, data := .set #[] 0 (.fresh 0 0 (!w.params.followText "set-order")) }).objs.size = s.heap.objs.size + 1 := Heap.size_push ..
        have ne1 : a ≠ (s.heap.push { cls := .type "set", dict := none, data := .set #[] 0 (.fresh 0 0 (!w.params.followText "set-order")) }).objs.size := fun e => Nat.lt_irrefl _ (Nat.lt_of_lt_of_le (Nat.lt_succ_of_lt lt1) (Nat.le_of_eq (sz1.symm.trans e.symm)))
        have nm1 : s.heap.objs.size ∉ [(s.heap.push { cls := .type "set", dict := none, data := .set #[] 0 (.fresh 0 0 (!w.params.followText "set-order")) }).objs.size, a] := by
          rw [sz1]; simp only [List.mem_cons, List.not_mem_nil, or_false, not_or]; exact ⟨(Nat.ne_of_lt (Nat.lt_succ_self _)), (Nat.ne_of_gt lt1)⟩
        have vals : ∀ (i : Nat) (v : Value), its[i]? = some v → ∃ p, ks[i]? = some p ∧ v = .ref p.1 := fun i v hv => by
          have e : its.toList[i]? = some v := by rw [Array.getElem?_toList, hv]
          rw [hi, List.getElem?_map] at e
          cases hq : ks[i]? with
          | none => rw [hq] at e; cases e
          | some p => rw [hq] at e; exact ⟨p, rfl, (Option.some.inj e).symm⟩
        have noneB : ∀ b, s.heap.objs.size ≤ b → s.heap.get? b = none := fun b hb => by
          cases q : s.heap.get? b with
          | none => rfl
          | some o => exact absurd (Nat.lt_of_lt_of_le (Heap.lt_size q) hb) (Nat.lt_irrefl _)
        refine set_update_tups ((Walks.tuple nh3 _ a ne1 its).toS) s.heap.objs.size nm1 ks lenI h64 vals s.heap hK (noneB _ (Nat.le_refl _)) (fun b hb => noneB b (by rw [List.mem_singleton.mp hb, sz1]; exact Nat.le_succ _)) hU (its.size - 0) 0 _ (by omega) (Nat.zero_le _)
          ⟨⟨_, Heap.get?_push_size _ rfl, rfl, rfl⟩, (isT1.push _)⟩ (fun b o e => Heap.get?_push_of_some _ (Heap.get?_push_of_some _ e)) ?c0 ?c1
        case c0 =>
          have g2 : ((s.heap.push { cls := .type "set", dict := none, data := .set #[] 0 (.fresh 0 0 (!w.params.followText "set-order")) }).push { cls := .type "tuple_iterator", data := .fields #[.ref a, .int 0 0] }).get? s.heap.objs.size = some { cls := .type "set", dict := none, data := .set #[] 0 (.fresh 0 0 (!w.params.followText "set-order")) } := Heap.get?_push_of_some _ gS
          exact ⟨[], #[], 0, _, setTR_fresh g2, Got.zero ks⟩
        case c1 =>
          rintro ⟨h', g2, d', tk', os'⟩ L es ep t hm hS' hg hkp
          have eg : g2 = s.gens := hm.gens; have ed : d' = s.drawn := hm.drawn; have eo : os' = s.os := hm.os
          subst eg; subst ed; subst eo
          show wpAny _ _ _ _ _ _
          refine wpAny_pure (?_ : _); show wpAny _ _ (ret Value.none) _ _ _
          rw [lenI] at hg
          exact wpAny_pure ⟨rfl, h', tk', L, es, ep, t, rfl, hS', hg, hkp⟩
      · cases r₂ with
        | error e => exact hr₂
        | ok fl₂ =>
          cases fl₂ with
          | ret r =>
            obtain ⟨rfl, h', tk, L, es, ep, t, rfl, z1, z2, z3⟩ := hr₂
            repeat (any_goals (first | assumption | wp_step))
            exact fin _ _ _ _ _ _ z1 z2 z3
          | _ => exact hr₂.elim
    | _ => exact hr.elim
end
section
variable {X : Cx}
/-- set(xs), xs a tuple of tuples of ints -/
def rSetTT (K : PySem.W.Frag) (P : Program) (w : World) : List V → Hp → VK → Prop := fun xs H Q => ∃ (l : Addr) (ks : List (Addr × List Int)), xs = [V.ref l] ∧ SqT K H l (ks.map fun p => V.ref p.1) ∧ (∀ p ∈ ks, SqT K H p.1 (p.2.map V.int)) ∧ ks.length < 64 ∧
  ∀ a L, H a = none → (∀ p ∈ L, p ∈ ks) → (∀ p ∈ ks, p.2 ∈ L.map (·.2)) → Q (.ref a) (upd H a (SetTO P w a L))
theorem cr_setTT (hc : X.calm = true) (hu : X.A.units + 64 < cLine) : CallR X (.type "set") (rSetTT X.K X.prog X.w) := by
  intro pins s σ H xs us Q I r ⟨l, ks, ex, hl, hk, hf, q⟩
  subst ex
  rw [Vals.ref1 r]
  obtain ⟨its, rv, pl, hz⟩ := I.tuple hl
  have hn : H s.heap.objs.size = none := I.hok.fresh (Nat.le_refl _)
  refine set_tupT (P := X.prog) (w := X.w) (its := its.toArray) ks (I.ok.hd hc) ?_ (by simpa using refs_of_vals rv) (fun p hp => I.isT (hk p hp)) hf (by omega) fun h' tk L es ep t R g k => ?_
  · exact pl
  · exact ⟨.ref s.heap.objs.size, upd H s.heap.objs.size (SetTO X.prog X.w s.heap.objs.size L), I.laid (t' := tk) k (Nat.le_refl _) (setTO_new R.t0), rfl, q _ L hn (fun p hp => List.mem_of_mem_take (g.sub p hp)) fun p hp => g.all p (by rw [List.take_length]; exact hp)⟩
end
end L2

namespace PyI
open PySem PySem.Spec L2 PyProof.Rows
def ppD (p : Nat × Nat) : PyData := .tuple [.int p.1, .int p.2]
def pairN : PyData → Option (Nat × Nat)
  | .tuple [.int a, .int b] => if 0 ≤ a ∧ a < 64 ∧ 0 ≤ b ∧ b < 64 then some (a.toNat, b.toNat) else none
  | _ => none
def pairsN : List PyData → Option (List (Nat × Nat))
  | [] => some []
  | d :: ds => match pairN d, pairsN ds with
    | some p, some ps => some (p :: ps)
    | _, _ => none
/-- the pairs, each once, in order -/
def ssP (ps : List (Nat × Nat)) : List (Nat × Nat) := ((List.range 4096).filter fun c => decide ((c / 64, c % 64) ∈ ps)).map fun c => (c / 64, c % 64)
def ssetE : BN
  | [.tuple ds] => match pairsN ds with
    | some ps => if ps.length < 64 then some (.newL ((ssP ps).map ppD)) else none
    | none => none
  | ds => ssetD ds
theorem pairN_some {d : PyData} {p : Nat × Nat} (h : pairN d = some p) : d = ppD p ∧ p.1 < 64 ∧ p.2 < 64 := by
  unfold pairN at h
  split at h
  · split at h
    · rename_i a b c
      cases h
      obtain ⟨x, rfl⟩ := Int.eq_ofNat_of_zero_le c.1
      obtain ⟨y, rfl⟩ := Int.eq_ofNat_of_zero_le c.2.2.1
      refine ⟨rfl, ?_, ?_⟩
      · show x < 64; omega
      · show y < 64; omega
    · cases h
  · cases h
theorem pairsN_some : ∀ {ds : List PyData} {ps : List (Nat × Nat)}, pairsN ds = some ps → ds = ps.map ppD ∧ ∀ p ∈ ps, p.1 < 64 ∧ p.2 < 64
  | [], ps, h => by cases h; exact ⟨rfl, fun p hp => by cases hp⟩
  | d :: ds, ps, h => by
    unfold pairsN at h
    split at h
    · rename_i p ps' h1 h2
      cases h
      obtain ⟨e1, e2⟩ := pairN_some h1
      obtain ⟨e3, e4⟩ := pairsN_some h2
      refine ⟨by rw [e1, e3]; rfl, fun q hq => ?_⟩
      rcases List.mem_cons.mp hq with rfl | hq
      · exact e2
      · exact e4 q hq
    · cases h
theorem pairsN_of {ps : List (Nat × Nat)} (h : ∀ p ∈ ps, p.1 < 64 ∧ p.2 < 64) : pairsN (ps.map ppD) = some ps := by
  induction ps with
  | nil => rfl
  | cons p ps ih =>
    have h1 := h p (by simp)
    have e1 : pairN (ppD p) = some p := by
      show (if 0 ≤ (p.1 : Int) ∧ (p.1 : Int) < 64 ∧ 0 ≤ (p.2 : Int) ∧ (p.2 : Int) < 64 then some ((p.1 : Int).toNat, (p.2 : Int).toNat) else none) = _
      rw [if_pos ⟨by omega, by omega, by omega, by omega⟩]
      rfl
    have e2 := ih fun q hq => h q (by simp [hq])
    show (match pairN (ppD p), pairsN (ps.map ppD) with | some p, some ps => some (p :: ps) | _, _ => none) = _
    rw [e1, e2]
theorem mem_ssP {ps : List (Nat × Nat)} (h : ∀ p ∈ ps, p.1 < 64 ∧ p.2 < 64) (p : Nat × Nat) : p ∈ ssP ps ↔ p ∈ ps := by
  unfold ssP
  rw [List.mem_map]
  constructor
  · rintro ⟨c, hc, rfl⟩
    exact of_decide_eq_true (List.mem_filter.mp hc).2
  · intro hp
    have := h p hp
    have e : ((64 * p.1 + p.2) / 64, (64 * p.1 + p.2) % 64) = p := Prod.ext (by show (64 * p.1 + p.2) / 64 = p.1; omega) (by show (64 * p.1 + p.2) % 64 = p.2; omega)
    exact ⟨64 * p.1 + p.2, List.mem_filter.mpr ⟨List.mem_range.mpr (by omega), decide_eq_true (by rw [e]; exact hp)⟩, e⟩
theorem ssP_lt (ps : List (Nat × Nat)) : (ssP ps).Pairwise fun p q => 64 * p.1 + p.2 < 64 * q.1 + q.2 := by
  unfold ssP
  rw [List.pairwise_map]
  refine (List.Pairwise.filter _ List.pairwise_lt_range).imp fun {a b} h => ?_
  show 64 * (a / 64) + a % 64 < 64 * (b / 64) + b % 64
  omega
theorem ssP_nodup (ps : List (Nat × Nat)) : (ssP ps).Nodup := (ssP_lt ps).imp fun h e => by rw [e] at h; omega
section
variable {K : PySem.W.Frag} {B : Hp}
def plP (p : Nat × Nat) : List Int := [(p.1 : Int), (p.2 : Int)]
theorem ks_of : ∀ {ps : List (Nat × Nat)} {xs : List V}, Reps K B xs (ps.map ppD) → ∃ ks : List (Addr × List Int), xs = ks.map (fun p => V.ref p.1) ∧ ks.map (·.2) = ps.map plP ∧ ∀ p ∈ ks, XT K B p.1 (p.2.map V.int)
  | [], xs, h => by cases h; exact ⟨[], rfl, rfl, fun p hp => by cases hp⟩
  | p :: ps, xs, h => by
    have h : Reps K B xs (ppD p :: ps.map ppD) := h
    cases h with
    | cons h1 h2 =>
      obtain ⟨ks, rfl, e2, e3⟩ := ks_of h2
      unfold ppD at h1
      cases h1 with
      | tup x r =>
        cases r with
        | cons r1 r2 =>
          cases r2 with
          | cons r3 r4 =>
            cases r4
            cases r1
            cases r3
            rename_i a
            refine ⟨(a, plP p) :: ks, rfl, by rw [List.map_cons, e2]; rfl, fun q hq => ?_⟩
            rcases List.mem_cons.mp hq with rfl | hq
            · exact x
            · exact e3 q hq
theorem reps_pp : ∀ {qs : List (Nat × Nat)} {L : List (Addr × List Int)}, L.map (·.2) = qs.map plP → (∀ p ∈ L, XT K B p.1 (p.2.map V.int)) → Reps K B (L.map fun q => V.ref q.1) (qs.map ppD)
  | [], L, e, _ => by
    cases L with
    | nil => exact .nil
    | cons _ _ => cases e
  | q :: qs, L, e, h => by
    cases L with
    | nil => cases e
    | cons p L =>
      rw [List.map_cons, List.map_cons] at e
      have e1 : p.2 = plP q := (List.cons.inj e).1
      have e2 := (List.cons.inj e).2
      have hp := h p (by simp)
      rw [e1] at hp
      exact .cons (.tup hp (.cons (.int _) (.cons (.int _) .nil))) (reps_pp e2 fun r hr => h r (by simp [hr]))
theorem sorted_pp {ps : List (Nat × Nat)} (hb : ∀ p ∈ ps, p.1 < 64 ∧ p.2 < 64) {L : List (Addr × List Int)} (nd : (L.map (·.2)).Nodup) (hm : ∀ l, l ∈ L.map (·.2) ↔ l ∈ ps.map plP) (hs : L.Pairwise fun q r => TS.code 64 q.2 ≤ TS.code 64 r.2) : L.map (·.2) = (ssP ps).map plP := by
  have inj : ∀ p q : Nat × Nat, plP p = plP q → p = q := fun p q e => by
    unfold plP at e
    have e1 : (p.1 : Int) = q.1 := (List.cons.inj e).1
    have e2 : (p.2 : Int) = q.2 := (List.cons.inj (List.cons.inj e).2).1
    exact Prod.ext (by omega) (by omega)
  have nd2 : ((ssP ps).map plP).Nodup := by
    unfold List.Nodup
    rw [List.pairwise_map]
    exact (ssP_nodup ps).imp fun h e => h (inj _ _ e)
  have hm2 : ∀ l, l ∈ (ssP ps).map plP ↔ l ∈ ps.map plP := fun l => by
    rw [List.mem_map, List.mem_map]
    exact ⟨fun ⟨p, h1, h2⟩ => ⟨p, (mem_ssP hb p).mp h1, h2⟩, fun ⟨p, h1, h2⟩ => ⟨p, (mem_ssP hb p).mpr h1, h2⟩⟩
  have pm : (L.map (·.2)).Perm ((ssP ps).map plP) := (List.perm_ext_iff_of_nodup nd nd2).mpr fun l => (hm l).trans (hm2 l).symm
  have code2 : ∀ p : Nat × Nat, TS.code 64 (plP p) = 64 * p.1 + p.2 := fun p => by
    unfold plP
    rw [code_pair]
    omega
  refine List.Perm.eq_of_pairwise (le := fun a b => TS.code 64 a ≤ TS.code 64 b) (fun a b ha hb' h1 h2 => ?_) (by rw [List.pairwise_map]; exact hs) (by
    rw [List.pairwise_map]
    exact (ssP_lt ps).imp fun h => by rw [code2, code2]; omega) pm
  obtain ⟨p, hp, rfl⟩ := List.mem_map.mp ((hm a).mp ha)
  obtain ⟨q, hq, rfl⟩ := List.mem_map.mp ((hm2 b).mp hb')
  rw [code2, code2] at h1 h2
  have b1 := hb p hp
  have b2 := hb q hq
  have : p = q := Prod.ext (by omega) (by omega)
  rw [this]
end
section
variable {X : Cx} {W : WX}
theorem sset_ofE {g : M (List Opd)} : ∀ σ H Q, tE X W (fBlt ssetE g) σ H Q → tCB (rSortedSet X.w) (tCons (tCB (rSetOf X.w X.K) (tA X W g)) tNil) σ H Q ∨ tCB (rSortedT X.K X.prog X.w) (tCons (tCB (rSetTT X.K X.prog X.w) (tA X W g)) tNil) σ H Q := by
  intro σ H Q ⟨H0, B0, fx, B, env, rr, S, hr, post⟩
  rcases Classical.em (∃ os e1 ds, g env = some (.ok os e1) ∧ getOs e1 os = some [PyData.tuple ds]) with ⟨os, e1, ds, k1, k2⟩ | hne
  · right
    have hr : (match getOs e1 os with | some ds => (ssetE ds).map (orR e1) | none => none) = some rr := by
      have : fBlt ssetE g env = some rr := hr
      unfold fBlt at this
      rw [k1] at this
      exact this
    rw [k2] at hr
    have hr : (match pairsN ds with | some ps => if ps.length < 64 then some (Or.newL ((ssP ps).map ppD)) else none | none => none).map (orR e1) = some rr := hr
    cases hps : pairsN ds with
    | none => rw [hps] at hr; cases hr
    | some ps =>
      rw [hps] at hr
      simp only at hr
      split at hr
      · rename_i hl
        cases hr
        obtain ⟨rfl, hb⟩ := pairsN_some hps
        refine ⟨H0, B0, fx, B, env, _, S, k1, fun vs H1 B1 s1 S1 o1 => ?_⟩
        have ro := o1.get S1 k2
        cases ro with
        | cons h rest =>
          cases rest
          obtain ⟨p, xs, rfl, hs, hrs⟩ := h.tup
          obtain ⟨ks, rfl, e2, e3⟩ := ks_of hrs
          have hkl : ks.length = ps.length := by
            have := congrArg List.length e2
            rw [List.length_map, List.length_map] at this
            exact this
          show rSetTT X.K X.prog X.w [.ref p] H1 fun v' H' => rSortedT X.K X.prog X.w [v'] H' Q
          refine ⟨p, ks, rfl, same_seqT S1.h.sub hs, fun q hq => same_seqT S1.h.sub (e3 q hq).sq, by omega, fun a L ha hL1 hL2 => ?_⟩
          have sB := same_upd (o := SetTO X.prog X.w a L) (none_of_same S1.h.sub ha)
          have S2 := S1.alloc (o := SetTO X.prog X.w a L) ha
          have po := postOr (s1.trans sB) S2 post
          have xt : ∀ q ∈ L, XT X.K (upd B1 a (SetTO X.prog X.w a L)) q.1 (q.2.map V.int) := fun q hq => (e3 q (hL1 q hq)).mono sB
          refine ⟨a, L, 2, 64, rfl, upd_same, fun q hq => same_seqT S2.h.sub (xt q hq).sq, by decide, fun q hq => ?_, fun L' p' pm nd hl' hs' hp' => ?_⟩
          · have : q.2 ∈ ks.map (·.2) := List.mem_map.mpr ⟨q, hL1 q hq, rfl⟩
            rw [e2] at this
            obtain ⟨r, hr, e⟩ := List.mem_map.mp this
            have := hb r hr
            rw [← e]
            refine ⟨rfl, fun m hm => ?_⟩
            unfold plP at hm
            rcases List.mem_cons.mp hm with rfl | hm
            · omega
            · rw [List.mem_singleton.mp hm]; omega
          · refine po p' (L'.map fun q => V.ref q.1) hp' (reps_pp (sorted_pp hb nd (fun l => ?_) hs') fun q hq => xt q (pm.mem_iff.mp hq))
            rw [← e2]
            constructor
            · intro h
              obtain ⟨q, hq, rfl⟩ := List.mem_map.mp h
              exact List.mem_map.mpr ⟨q, hL1 q (pm.mem_iff.mp hq), rfl⟩
            · intro h
              obtain ⟨q, hq, rfl⟩ := List.mem_map.mp h
              exact ((pm.map (·.2)).mem_iff).mpr (hL2 q hq)
      · cases hr
  · left
    refine sset_of σ H Q ⟨H0, B0, fx, B, env, rr, S, ?_, post⟩
    rw [← hr]
    unfold fBlt
    cases hg : g env with
    | none => rfl
    | some r =>
      cases r with
      | exc c e => rfl
      | ok os e1 =>
        simp only [bnd_ok]
        cases hgo : getOs e1 os with
        | none => rfl
        | some ds =>
          have : ssetE ds = ssetD ds := by
            unfold ssetE
            split
            · exact absurd ⟨os, e1, _, hg, hgo⟩ hne
            · rfl
          simp only [this]
theorem pe_either {e : Expr} {t t' : TE} (h : PE X e t) (h' : PE X e t') : PE X e (fun σ H Q => t σ H Q ∨ t' σ H Q) := ⟨fun pins s σ H Q I q => by
  rcases q with q | q
  · exact h.run pins s σ H Q I q
  · exact h'.run pins s σ H Q I q⟩
theorem sset_okE {g : M (List Opd)} {z : Expr} {p p2 q1 q2 : Pos} (hc : X.calm = true) (hu : X.A.units + 65 < cLine) (hg : Gl X "sorted") (hm : X.mg "sorted" = none) (hg2 : Gl X "set") (hm2 : X.mg "set" = none) (ha : PA X [z] (tA X W g)) (hz : starEach [z] X.env = (false, eval z X.env) :: starEach [] X.env) :
    PE X (.Call (.Name "sorted" p) [.Call (.Name "set" p2) [z] [] q1] [] q2) (tE X W (fBlt ssetE g)) :=
  (pe_either (pe_callB (cr_sortedSet hc) hg hm (by decide +kernel) (pa_cons (pe_callTy (cr_setOf hc) hg2 hm2 (by decide +kernel) ha (by decide) (by decide) hz rfl) pa_nil) (by decide) (by decide))
    (pe_callB (cr_sortedT hc) hg hm (by decide +kernel) (pa_cons (pe_callTy (cr_setTT hc (by omega)) hg2 hm2 (by decide +kernel) ha (by decide) (by decide) hz rfl) pa_nil) (by decide) (by decide))).imp sset_ofE
end
end PyI

/-! # sorted of a list of tuples the first of which has nothing in it -/
namespace PySem.W
open PySem PySem.Calls PySem.SeqAt PyProof.Rows
section
variable {prog : Program} {w : World} {A : Around} {E : Value → Shared → Prop} {s : Shared}
theorem tup_lt {Q : Value → Shared → Prop} {l b : Addr} {us vs : Array Value} {e r : Nat → Bool} (hl : s.heap.IsTuple l us) (hb : s.heap.IsTuple b vs)
    (h1 : ∀ j (g1 : j < us.size) (g2 : j < vs.size), EqAt A.in1 s us[j] vs[j] (e j)) (h2 : ∀ j (g1 : j < us.size) (g2 : j < vs.size), e j = false → RcLt A.in1 s us[j] vs[j] (r j))
    (hq : Q (.bool (firstLt e r (decide (us.size < vs.size)) (List.range (min us.size vs.size)))) s) : wpAny (model prog w) A (call (.builtin "tuple.__lt__") [.ref l, .ref b]) Q E s := by
  obtain ⟨⟨c1, d1, dt1, sl1⟩, ho1, hc1, n1, hd1⟩ := id hl
  obtain ⟨⟨c2, d2, dt2, sl2⟩, ho2, hc2, n2, hd2⟩ := id hb
  simp only at hc1 hd1 hc2 hd2
  subst hc1 hd1 hc2 hd2
  exact call_meets F.slot_tuple_lt ⟨_, ho1, rfl⟩ F.entry_tuple_lt (F.args_tuple_lt_2 _ _) (tuple_ltAt l b us vs n1 n2 d1 d2 sl1 sl2 e r) ⟨ho1, ho2, h1, h2, hq⟩
theorem one_tup {xs ys : List PyData} {a b : Value} {as bs : List Addr} {Q : Bool → Shared → Prop} (ra : Reads s.heap a (.tuple xs) as) (rb : Reads s.heap b (.tuple ys) bs) (h : alike (.tuple xs) (.tuple ys) = true)
    (hu : A.units + min (PyData.tuple xs).depth (PyData.tuple ys).depth < cLine) (hq : Q (dataLt (.tuple xs) (.tuple ys)) s) : wpAny (model prog w) A (oneLt' true a b) Q E s := by
  have al : alikeAll xs ys = true := by simpa [alike] using h
  cases ra with
  | @tuple l o us n _ as₁ p1 p2 p3 p4 =>
    cases rb with
    | @tuple l' o' vs n' _ bs₁ k1 k2 k3 k4 =>
      have s1 : us.size = xs.length := by simpa using ReadsAll.length _ _ _ p4
      have s2 : vs.size = ys.length := by simpa using ReadsAll.length _ _ _ k4
      rw [dataLt_tuple, ← firstLt_toks xs ys al, ← s1, ← s2] at hq
      rw [oneLt'_eq]; simp only [if_true]
      refine wpAny_bind (wpAny_cRoomFor (room_here hu) (wpAny_bind (wpAny_callSpecialIfBound?_slot (T := "tuple") ⟨_, p1, p2⟩ F.slot_tuple_lt (tup_lt (e := pairEq xs ys) (r := fun j => dataLt (xs.getD j .none) (ys.getD j .none)) ⟨_, p1, p2, _, p3⟩ ⟨_, k1, k2, _, k3⟩ (fun j j1 j2 => ?_) (fun j j1 j2 hj => ?_) ?_))))
      · have z := eqAt_alikeAll xs ys A.in1 s us.toList vs.toList _ _ p4 k4 al (room_in hu) j (by simpa using j1) (by simpa using j2)
        simpa using z
      · have z := rcLt_alikeAll xs ys A.in1 s us.toList vs.toList _ _ p4 k4 al (room_in hu) j (by simpa using j1) (by simpa using j2) hj
        simpa using z
      · exact wpAny_truthy_bool hq
end
section
variable {M : Model} {A : Around} {E : Value → Shared → Prop} {s : Shared}
theorem e_firsts : ∀ (vs : List Value) (ds : List PyData) {Q : List (Option Value) → Shared → Prop}, EachIs (fun v d => ∃ as, Reads s.heap v d as) vs ds → (∀ d ∈ ds, ∃ xs, d = .tuple xs) →
    (∀ gs : List (Option Value), gs.length = vs.length → (∀ r, ds = .tuple [] :: r → ∃ gr, gs = none :: gr) → Q gs s) → wpAny M A (vs.mapM firstOfTuple') Q E s
  | _, _, _, .nil, _, hQ => by
    rw [List.mapM_nil]
    exact wpAny_pure (hQ [] rfl fun r e => by cases e)
  | v :: vs, d :: ds, Q, .cons ⟨as, r⟩ t, ht, hQ => by
    obtain ⟨xs, rfl⟩ := ht d (List.mem_cons_self ..)
    cases r with
    | @tuple a o arr n _ _ p1 p2 p3 p4 =>
      rw [List.mapM_cons, kas_first_eq]
      refine wpAny_bind (wpAny_bind (Looks.here (show Looks M s.heap (typeOf (.ref a)) o.cls from (Looks.ld p1).andThen .now) ?_))
      rw [p2, if_neg (by first | decide | simp)]
      refine wpAny_bind (listItems_at p1 p3 (wpAny_pure (wpAny_bind (e_firsts vs ds t (fun d hd => ht d (List.mem_cons_of_mem _ hd)) fun gs hg _ => wpAny_pure (hQ _ (by rw [List.length_cons, List.length_cons, hg]) fun r e => ⟨gs, ?_⟩)))))
      have e1 : xs = [] := by injection e with e2 _; injection e2
      have s1 : arr.size = xs.length := by simpa using SeqAt.ReadsAll.length _ _ _ p4
      have : arr[0]? = none := Array.getElem?_eq_none (by rw [s1, e1]; exact Nat.le_refl _)
      rw [this]
theorem kind_e {vs : List Value} {ds : List PyData} {Q : SortKind → Shared → Prop} (e : EachIs (fun v d => ∃ as, Reads s.heap v d as) vs ds) (ht : ∀ d ∈ ds, ∃ xs, d = .tuple xs) (h0 : ∃ r, ds = .tuple [] :: r) (hq : Q oneType' s) : wpAny M A (keyKind' vs.toArray) Q E s := by
  obtain ⟨r, rfl⟩ := h0
  cases e with
  | cons hv t =>
    rename_i v vs'
    rw [kat_kind_eq, List.mapM_toArray, map_eq_pure_bind]
    refine wpAny_bind (wpAny_bind (e_firsts (v :: vs') (.tuple [] :: r) (.cons hv t) ht fun gs hg hh => wpAny_pure ?_))
    obtain ⟨gr, rfl⟩ := hh r rfl
    rw [if_neg (by simp), if_neg (by simp)]
    rw [oneTypeOnly'_eq, List.mapM_toArray, map_eq_pure_bind]
    have hT : ∀ u ∈ v :: vs', Looks M s.heap (typeOf u) (Value.type "tuple") := fun u hu => by
      obtain ⟨d, hd, as, rd⟩ := (EachIs.cons hv t).left u hu
      obtain ⟨xs, rfl⟩ := ht d hd
      exact looks_reads rd
    refine wpAny_bind (wpAny_bind (wpAny_bind (kas_mapM (r := Value.type "tuple") _ (fun u hu Q' hq' => (hT u hu).here hq') (wpAny_pure ?_))))
    have a1 : ((List.map (fun _ => Value.type "tuple") (v :: vs')).toArray.all fun x => x == Value.type "tuple") = true := by
      simp only [List.all_toArray, List.all_map, List.all_eq_true]
      exact fun _ _ => beq_self_eq_true _
    have a0 : (List.map (fun _ => Value.type "tuple") (v :: vs')).toArray[0]? = some (Value.type "tuple") := by simp
    rw [a0]; simp only [a1, if_true]
    exact wpAny_pure (wpAny_pure hq)
end
section
variable {prog : Program} {w : World} {A : Around} {s : Shared}
theorem SortsAt.tupE {vs : List Value} {ds : List PyData} (e : EachIs (fun v d => ∃ as, Reads s.heap v d as) vs ds) (hal : AllAlike ds) (ht : ∀ d ∈ ds, ∃ xs, d = .tuple xs) (h0 : ∃ r, ds = .tuple [] :: r) (hu : ∀ d, d ∈ ds → A.units + d.depth < cLine) : SortsAt prog w A s (dataKind s.heap ds) vs := by
  refine ⟨fun v hv => ?_, oneType', fun E x y a b Q ha hb hq => ?_, fun h2 E Q hq => kind_e e ht h0 hq⟩
  · obtain ⟨d, hd, as, r⟩ := e.left v hv
    exact ⟨_, dataKind_some hal hd r⟩
  · obtain ⟨d, as, hd, ra, rfl⟩ := dataKind_inv ha
    obtain ⟨d', as', hd', rb, rfl⟩ := dataKind_inv hb
    have al := hal d hd d' hd'
    have room : A.units + min d.depth d'.depth < cLine := Nat.lt_of_le_of_lt (Nat.add_le_add_left (Nat.min_le_left _ _) _) (hu d hd)
    obtain ⟨xs, rfl⟩ := ht d hd
    obtain ⟨ys, rfl⟩ := ht d' hd'
    rw [keyLt'_oneType]
    exact one_tup ra rb al room hq
end
section
variable {prog : Program} {w : World} {A : Around} {E : Value → Shared → Prop} {s : Shared} {β : Type} {vs : List Value} {bs : List β} {enc : β → PyData} {R : Value → β → Prop}
theorem sorted_tupE {l : Addr} {Q : Value → Shared → Prop} (hl : s.heap.IsList l vs.toArray) (e : EachIs R vs bs) (er : EachIs (fun v b => ∃ as, Reads s.heap v (enc b) as) vs bs) (hal : AllAlike (bs.map enc)) (ht : ∀ d ∈ bs.map enc, ∃ xs, d = .tuple xs) (h0 : ∃ r, bs.map enc = .tuple [] :: r) (hL : bs.length ≤ sizeLine)
    (hu : ∀ b, b ∈ bs → A.units + 2 + (enc b).depth < cLine) (h : ∀ out, out.length = bs.length → EachIs R out (bs.mergeSort (dataLe false enc)) → Q (.ref (s.heap.objs.size + 1)) { s with heap := sortedAll s.heap vs (List.toArray out) }) :
    wpAny (model prog w) A (call (.builtin "sorted") [.ref l]) Q E s := by
  have e2 : EachIs (fun v b => ∃ as, Reads (sortingHeap (copyHeap s.heap vs) (s.heap.objs.size + 1) vs) v (enc b) as) vs bs := er.mono fun _ _ ⟨as, r⟩ => ⟨as, PyProof.Rows.Reads.keeps (fun _ _ => sorting_copy_old) r⟩
  refine sorted_vals hl (SortsAt.tupE (s := { s with heap := sortingHeap (copyHeap s.heap vs) (s.heap.objs.size + 1) vs }) (each_map (R := fun v d => ∃ as, Reads (sortingHeap (copyHeap s.heap vs) (s.heap.objs.size + 1) vs) v d as) enc e2) hal ht h0 (bound_map hu)) (by rw [e.length]; exact hL) ?_
  exact h _ (by rw [sortVals_length false rfl]; exact e.length) (sortVals_data false e e2 hal)
end
end PySem.W
namespace PyI
open PySem PySem.Spec L2 PyProof.Rows
def tupB : PyData → Bool
  | .tuple _ => true
  | _ => false
def headE : List PyData → Bool
  | .tuple [] :: _ => true
  | _ => false
def okE (ds : List PyData) : Bool := headE ds && ds.all fun d => pln d && tupB d && decide (d.depth ≤ 8) && ds.all (PySem.W.alike d)
def rSortedE (K : PySem.W.Frag) : List V → Hp → VK → Prop := fun vs H Q => ∃ (a : Addr) (xs : List V) (ds : List PyData), vs = [V.ref a] ∧ SqL K H a xs ∧ Reps K H xs ds ∧ okE ds = true ∧
  ∀ (ys : List V) (p : Addr), (∃ l : List (V × PyData), (∀ q ∈ l, q ∈ xs.zip ds) ∧ l.map (·.1) = ys ∧ l.map (·.2) = sortA ds) → H p = none → Q (.ref p) (upd H p (.lst ys))
theorem cr_sortedE {X : Cx} (hu : X.A.units + 20 < cLine) : CallR X (.builtin "sorted") (rSortedE X.K) := by
  intro pins s σ H vs us Q I r h
  obtain ⟨a, xs, ds, rfl, hs, hr, hk, q⟩ := h
  obtain ⟨its, rv, hl, hz⟩ := I.list hs
  obtain ⟨u, rfl, ru⟩ := vals1 r
  obtain rfl : u = Value.ref a := ru
  have hlen := hr.length
  unfold okE at hk
  rw [Bool.and_eq_true] at hk
  have hh : ∃ r, ds = .tuple [] :: r := by
    have := hk.1
    unfold headE at this
    split at this
    · exact ⟨_, rfl⟩
    · cases this
  have hk' : ∀ d ∈ ds, pln d = true ∧ tupB d = true ∧ d.depth ≤ 8 ∧ ∀ e ∈ ds, PySem.W.alike d e = true := fun d hd => by
    have := List.all_eq_true.mp hk.2 d hd
    simp only [Bool.and_eq_true, decide_eq_true_eq, List.all_eq_true] at this
    exact ⟨this.1.1.1, this.1.1.2, this.1.2, this.2⟩
  have e2 : (xs.zip ds).map (·.2) = ds := List.map_snd_zip (by rw [hlen]; exact Nat.le_refl _)
  refine PySem.W.sorted_tupE (R := fun u (q : V × PyData) => RelV q.1 u) (bs := xs.zip ds) (enc := fun q => q.2) hl.isList (vals_each rv hlen) (each_reads I rv hr fun d hd => (hk' d hd).1) ?_ ?_ ?_ ?_ ?_ fun out ho eo => ?_
  · rw [e2]; exact fun d hd e he => (hk' d hd).2.2.2 e he
  · rw [e2]
    intro d hd
    have := (hk' d hd).2.1
    unfold tupB at this
    split at this
    · exact ⟨_, rfl⟩
    · cases this
  · rw [e2]; exact hh
  · rw [List.length_zip]; omega
  · intro b hb
    have : b.2 ∈ ds := by rw [← e2]; exact List.mem_map.mpr ⟨b, hb, rfl⟩
    have := (hk' _ this).2.2.1
    show X.A.units + 2 + b.2.depth < cLine
    omega
  · have hp : ((xs.zip ds).mergeSort (PySem.W.dataLe false fun q : V × PyData => q.2)).Perm (xs.zip ds) := List.mergeSort_perm _ _
    have hm : ((xs.zip ds).mergeSort (PySem.W.dataLe false fun q : V × PyData => q.2)).map (·.2) = sortA ds := by
      unfold sortA
      refine (List.map_mergeSort (f := fun q : V × PyData => q.2) (s := PySem.W.dataLe false id) (fun a _ b _ => ?_)).trans (by rw [e2])
      rfl
    have hv := each_vals eo
    obtain ⟨n, hn⟩ := PyProof.Rows.sortedAll_at s.heap its out.toArray
    have hd : s.heap.objs.size ≤ s.heap.objs.size + 1 := Nat.le_succ _
    refine ⟨.ref (s.heap.objs.size + 1), upd H (s.heap.objs.size + 1) (.lst (((xs.zip ds).mergeSort (PySem.W.dataLe false fun q : V × PyData => q.2)).map (·.1))), I.laid (t' := s.toks) (fun b o e => PyProof.Rows.sortedAll_old e) hd ⟨?_, out, n, hv, hn⟩, rfl, q _ _ ⟨_, fun p hp' => hp.mem_iff.mp hp', rfl, hm⟩ (I.hok.fresh hd)⟩
    rw [List.length_map, hp.length_eq, List.length_zip]
    omega
/-- sorted, with the lists that begin with an empty tuple -/
def sortedE : BN
  | [.list ds] => if okE ds = true then some (.newL (sortA ds)) else sortedD [.list ds]
  | ds => sortedD ds
theorem bltSortedE {X : Cx} (hc : X.calm = true) (hu0 : X.A.units + 65 < cLine) : CallR X (.builtin "sorted") (rC X.K sortedE) :=
  ((bltSorted hc hu0).or (cr_sortedE (by omega))).imp fun xs H Q ⟨B, us, o, s, hu, ho, post⟩ => by
    unfold sortedE at ho
    split at ho
    · split at ho
      · rename_i hk
        cases ho
        obtain ⟨a, ys, rfl, h1, h2⟩ := roL s hu
        have h2' := Reps.mono s h2
        exact .inr ⟨a, ys, _, rfl, h1, h2', hk, fun zs p hz hn' => post p _ hn' (zip_rep h2 hz)⟩
      · exact .inl ⟨B, _, o, s, hu, ho, post⟩
    · exact .inl ⟨B, _, o, s, hu, ho, post⟩
theorem sortE_ok {X : Cx} {W : WX} {g : M (List Opd)} {z : Expr} {p q : Pos} (hc : X.calm = true) (hu : X.A.units + 65 < cLine) (hg : Gl X "sorted") (hm : X.mg "sorted" = none) (ha : PA X [z] (tA X W g)) (hz : starEach [z] X.env = (false, eval z X.env) :: starEach [] X.env) :
    PE X (.Call (.Name "sorted" p) [z] [] q) (tE X W (fBlt sortedE g)) :=
  (pe_callB (bltSortedE hc hu) hg hm (by decide +kernel) ha (by decide) (by decide) hz rfl).imp blt_of
end PyI

namespace PyI
open PySem PySem.Spec L2 PyProof.Rows

/-! ## the IR -/
mutual
inductive IE where
  | var (i : Nat)
  | cst (c : Const)
  | glob (x : PySem.Str)
  | tup (es : IL)
  | lst (es : IL)
  | bin (o : Operator) (a b : IE)
  | neg (a : IE)
  | cmp (o : CmpOp) (a b : IE)
  | chain (o o' : CmpOp) (a b c : IE)
  | not (a : IE)
  | and (es : IL)
  | or (es : IL)
  | ife (t a b : IE)
  | ix (a b : IE)
  | sl (a : IE) (lo hi : IO)
  | call (f : PySem.Str) (es : IL)
  | blt (b : Blt) (es : IL)
  | isi (T : Tn) (a : IE)
  | pop (i : Nat)
  | popAt (i : Nat) (e : IE)
  | app (i : Nat) (e : IE)
  | ext (i : Nat) (e : IE)
  | kget (x : PySem.Str) (a : IE) (k : Int)
  | sset (a : IE)
  | sortE (a : IE)
  | callk (f : PySem.Str) (es : IL)
  | callf (f : PySem.Str) (es : IL)
  | comp (own : List (PySem.Str × Nat)) (tg : IT) (it : II) (ifs : IL) (elt : IE)
  | comp2 (own : List (PySem.Str × Nat)) (tg : IT) (it : II) (vs1 : List Nat) (tg1 : IT) (it1 : II) (ifs : IL) (elt : IE)
  | dcomp (own : List (PySem.Str × Nat)) (tg : IT) (it : II) (k v : IE)
  | dnew
  | disp (k v : IE)
  | dget (o k d : IE)
  | tidx (o k : IE)
  | rg1 (t : Bool) (a : IE)
  | rg2 (t : Bool) (a b : IE)
  | rvl (a : IE)
  | lzip (a b : IE)
  | compI (own : List (PySem.Str × Nat)) (tg : IT) (i : Nat) (ifs : IL) (elt : IE)
  | bitlen (i : Nat)
  | stuck
inductive IL where
  | nil
  | cons (e : IE) (es : IL)
inductive IO where
  | no
  | so (e : IE)
inductive II where
  | seq (e : IE)
  | rng1 (a : IE)
  | rng2 (a b : IE)
  | enum (e : IE)
  | zip (a b : IE)
  | rev (e : IE)
  | revr (a : IE)
inductive IT where
  | name (i : Nat)
  | tup (n : Nat) (ts : ITs)
inductive ITs where
  | nil
  | cons (t : IT) (ts : ITs)
end
mutual
inductive IS where
  | set (i : Nat) (e : IE)
  | tgt (t : IT) (e : IE)
  | aug (i : Nat) (o : Operator) (e : IE)
  | sub (i : Nat) (k e : IE)
  | saug (i : Nat) (o : Operator) (k e : IE)
  | expr (e : IE)
  | ret (e : IE)
  | retN
  | ite (t : IE) (a b : ISs)
  | for (t : IT) (it : II) (b : ISs)
  | forI (i : Nat) (t : IT) (b : ISs)
  | forO (j : Nat) (tg : IT) (k : Nat) (a b : IE)
  | setDE (i : Nat) (own : List (PySem.Str × Nat)) (tg : IT) (en : Bool) (j : Nat) (k v : IE)
  | while (t : IE) (b : ISs)
  | brk
  | cnt
  | pass
  | raise (c : PySem.Str)
  | tryx (i j k : Nat) (c R : PySem.Str) (cs : List PySem.Str) (e : IE)
  | tryv (k j : Nat) (c R : PySem.Str) (cs cs' : List PySem.Str) (msg : PySem.Str) (b : ISs)
  | tryz (k : Nat) (c R : PySem.Str) (cs : List PySem.Str) (b : ISs)
  | tryo (c R : PySem.Str) (b : ISs) (e : IE)
  | stuck
inductive ISs where
  | nil
  | cons (s : IS) (ss : ISs)
end

/-! ## the evaluator -/
/-- the program's tables: its defs one level down, its constants; hot: within an except suite; fuel: for while -/
structure Prg where
  call : PySem.Str → Option (Nat × CF)
  con : PySem.Str → Option PyData
  exc : PySem.Str → Bool
  tri : PySem.Str → PySem.Str → List PySem.Str → Bool
  fuel : Nat
  dic : PySem.Str → Option (List (PyData × PyData))
  callF : PySem.Str → Option (Nat × CFF)
structure EV where
  e : M (PyData × Bool)
  t : M Bool
structure LV where
  v : M (List PyData)
  a : M (List Opd)
  andV : M PyData
  orV : M PyData
  andT : M Bool
  orT : M Bool
  one : M Bool
def mFail {α : Type} : M α := fun _ => none
def oE (ie : IE) (f : M (PyData × Bool)) : M Opd :=
  match ie with
  | .var i => oVar i
  | _ => op1 (fz f)
def mkE (ie : IE) (f : M (PyData × Bool)) : EV := ⟨f, fTru (oE ie f)⟩
def tT' (f : M (PyData × Bool)) : EV := ⟨f, fTst f⟩
mutual
def tgF : IT → TgF
  | .name i => gN i
  | .tup n ts => gT (tgsF ts) n
def tgsF : ITs → List PyData → Ev → Option Ev
  | .nil => gN0
  | .cons t ts => gNC (tgF t) (tgsF ts)
end
mutual
def tgS : IT → List Nat
  | .name i => [i]
  | .tup _ ts => tgsS ts
def tgsS : ITs → List Nat
  | .nil => []
  | .cons t ts => tgS t ++ tgsS ts
end
def IL.isNil : IL → Bool
  | .nil => true
  | _ => false
mutual
def ev (P : Prg) : IE → EV
  | .var i => mkE (.var i) (unfz (fVar i))
  | .cst c => mkE (.cst c) (match constD c with | some d => unfz (fCst d) | none => mFail)
  | .glob x => mkE (.glob x) (match P.con x with | some d => unfz (fCst d) | none => mFail)
  | .tup es => mkE (.tup es) (fTup (evL P es).v)
  | .lst es => mkE (.lst es) (fLst (evL P es).v)
  | .bin o a b => mkE (.bin o a b) (fBin (binD o) (oE a (ev P a).e) (oE b (ev P b).e))
  | .neg a => mkE (.neg a) (fUn negD (oE a (ev P a).e))
  | .cmp o a b => tT' (fBin (cmpD o) (oE a (ev P a).e) (oE b (ev P b).e))
  | .chain o o' a b c => tT' (fChain (cmpD o) (cmpD o') (oE a (ev P a).e) (oE b (ev P b).e) (oE c (ev P c).e))
  | .not a => ⟨unfz (vNot (fz (ev P a).e)), mNot (ev P a).t⟩
  | .and es => ⟨unfz (evL P es).andV, (evL P es).andT⟩
  | .or es => ⟨unfz (evL P es).orV, (evL P es).orT⟩
  | .ife t a b => ⟨fIf (ev P t).t (ev P a).e (ev P b).e, fIfT (ev P t).t (ev P a).t (ev P b).t⟩
  | .ix a b => mkE (.ix a b) (fBin ixD (oE a (ev P a).e) (oE b (ev P b).e))
  | .sl a lo hi => mkE (.sl a lo hi) (fSl (oE a (ev P a).e) (evP P lo) (evP P hi))
  | .call f es => mkE (.call f es) (match P.call f with | some (np, cf) => fCall np cf (evL P es).a | none => mFail)
  | .blt b es => mkE (.blt b es) (fBlt b.run (evL P es).a)
  | .isi T a => mkE (.isi T a) (fIsi (oE a (ev P a).e) T)
  | .pop i => mkE (.pop i) (unfz (fPop i))
  | .popAt i e => mkE (.popAt i e) (unfz (fPopAt i (fz (ev P e).e)))
  | .app i e => mkE (.app i e) (unfz (fApp i (fz (ev P e).e)))
  | .ext i e => mkE (.ext i e) (unfz (fExt i (oE e (ev P e).e)))
  | .kget x a k => mkE (.kget x a k) (match P.dic x with | some kvs => unfz (fKget kvs (fz (ev P a).e) k) | none => mFail)
  | .callk f es => mkE (.callk f es) (match P.call f with | some (np, cf) => fCallK np cf (evL P es).a | none => mFail)
  | .callf f es => mkE (.callf f es) (match P.callF f with | some (np, cf) => fCallF np cf (evL P es).a | none => mFail)
  | .sset a => mkE (.sset a) (fBlt ssetE (aCons (oE a (ev P a).e) aNil))
  | .sortE a => mkE (.sortE a) (fBlt sortedE (aCons (oE a (ev P a).e) aNil))
  | .comp own tg it ifs elt => mkE (.comp own tg it ifs elt) (fComp (evI P it) (tgF tg) (evL P ifs).one (fz (ev P elt).e) (own.map (·.2)))
  | .comp2 own tg it vs1 tg1 it1 ifs elt => mkE (.comp2 own tg it vs1 tg1 it1 ifs elt) (fComp2 (evI P it) (tgF tg) (evI P it1) (tgF tg1) (evL P ifs).one (fz (ev P elt).e) (own.map (·.2)) vs1)
  | .dcomp own tg it k v => mkE (.dcomp own tg it k v) (fDcomp (evI P it) (tgF tg) (fz (ev P k).e) (fz (ev P v).e) (own.map (·.2)))
  | .dnew => mkE .dnew fDnew
  | .disp k v => mkE (.disp k v) (fDisp1 (fz (ev P k).e) (fz (ev P v).e))
  | .tidx o k => mkE (.tidx o k) (unfz (fTidx (oE o (ev P o).e) (fz (ev P k).e)))
  | .rg1 t a => mkE (.rg1 t a) (fUn (rg1O t) (oE a (ev P a).e))
  | .rg2 t a b => mkE (.rg2 t a b) (fBin (rgO t) (oE a (ev P a).e) (oE b (ev P b).e))
  | .rvl a => mkE (.rvl a) (fUn rvO (oE a (ev P a).e))
  | .lzip a b => mkE (.lzip a b) (fLzip (fz (ev P a).e) (fz (ev P b).e))
  | .compI own tg i ifs elt => mkE (.compI own tg i ifs elt) (fCompI i (tgF tg) (evL P ifs).one (fz (ev P elt).e) (own.map (·.2)))
  | .bitlen i => mkE (.bitlen i) (unfz (fBits (fVar i)))
  | .dget o k d => mkE (.dget o k d) (unfz (fDget2 (oE o (ev P o).e) (fz (ev P k).e) (fz (ev P d).e)))
  | .stuck => ⟨mFail, mFail⟩
def evL (P : Prg) : IL → LV
  | .nil => ⟨vNil, aNil, mFail, mFail, mFail, mFail, mYes⟩
  | .cons e es => ⟨vCons (fz (ev P e).e) (evL P es).v, aCons (oE e (ev P e).e) (evL P es).a,
      bif es.isNil then fz (ev P e).e else vAnd (fz (ev P e).e) (evL P es).andV,
      bif es.isNil then fz (ev P e).e else vOr (fz (ev P e).e) (evL P es).orV,
      bif es.isNil then (ev P e).t else mAnd (ev P e).t (evL P es).andT,
      bif es.isNil then (ev P e).t else mOr (ev P e).t (evL P es).orT,
      bif es.isNil then (ev P e).t else mFail⟩
def evP (P : Prg) : IO → M (Option Int)
  | .no => pNo
  | .so e => pSo (fz (ev P e).e)
def evI (P : Prg) : II → M (List PyData)
  | .seq e => iSeq (fz (ev P e).e)
  | .rng1 a => fun env => bnd (aCons (oE a (ev P a).e) aNil env) fun os e => if os.length = 1 then iRange (fun e => some (.ok os e)) e else none
  | .rng2 a b => fun env => bnd (aCons (oE a (ev P a).e) (aCons (oE b (ev P b).e) aNil) env) fun os e => if os.length = 2 then iRange (fun e => some (.ok os e)) e else none
  | .enum e => iEnumD (fz (ev P e).e)
  | .zip a b => iZipD (fz (ev P a).e) (fz (ev P b).e)
  | .rev e => iRevD (fz (ev P e).e)
  | .revr a => iRevR (fz (ev P a).e)
end
mutual
def evS (P : Prg) : IS → MS
  | .set i e => sSet i (ev P e).e
  | .tgt t e => sTgt (fz (ev P e).e) (tgF t)
  | .aug i o e => sAug i o (oE e (ev P e).e)
  | .sub i k e => sSub i (fz (ev P k).e) (fz (ev P e).e)
  | .saug i o k e => sSaug i o (fz (ev P k).e) (fz (ev P e).e)
  | .expr e => sExpr (fz (ev P e).e)
  | .ret e => sRet (fz (ev P e).e)
  | .retN => sRetN
  | .ite t a b => sIf (ev P t).t (evSs P a) (evSs P b)
  | .for t it b => sFor (evI P it) (tgF t) (evSs P b)
  | .forI i t b => sForI i (tgF t) (evSs P b)
  | .forO j t k a b => sForO j (tgF t) (sSub k (fz (ev P a).e) (fz (ev P b).e))
  | .setDE i own tg en j k v => sSetDE i en j (tgF tg) (fz (ev P k).e) (fz (ev P v).e) (own.map (·.2))
  | .while t b => whileL (ev P t).t (evSs P b) P.fuel
  | .brk => sBreak
  | .cnt => sCont
  | .pass => sSkip
  | .raise c => if P.exc c = true then sRaise c else fun _ => none
  | .tryx i j k c R cs e => if P.tri c R cs = true then sTryx i j k c (ev P e).e else fun _ => none
  | .tryv k j c R cs cs' msg b => if (P.tri c R cs && P.tri c R cs') = true then sTryv k j c msg (evSs P b) else fun _ => none
  | .tryz k c R cs b => if P.tri c R cs = true then sTryz k c (evSs P b) else fun _ => none
  | .tryo c R b e => if P.tri c R [] = true then sTryo c (evSs P b) (fz (ev P e).e) else fun _ => none
  | .stuck => fun _ => none
def evSs (P : Prg) : ISs → MS
  | .nil => sSkip
  | .cons s ss => sSeq (evS P s) (evSs P ss)
end

/-! ## a suite whose last statement returns something new -/
def freshE (P : Prg) : IE → Ev → Option Cn
  | .var i => frV i
  | e => frR (ev P e).e
def freshSs (P : Prg) : ISs → Ev → Option Cn
  | .nil => fun _ => none
  | .cons (.ret e) .nil => freshE P e
  | .cons s ss => fun env => match evS P s env with
    | some (.nx e) => freshSs P ss e
    | _ => none
/-! ## the IR is a text's -/
def visB (sc : Scope) (x : PySem.Str) : Bool := match sc.names.lookup x with
  | some .local => true
  | some .cell => true
  | some .free => true
  | _ => false
def locB (sc : Scope) (x : PySem.Str) : Bool := match sc.names.lookup x with
  | some .local => true
  | some .cell => true
  | _ => false
def glB (sc : Scope) (x : PySem.Str) : Bool := (match sc.names.lookup x with | some .globalImplicit => true | _ => false) && !(x == ("__debug__" : PySem.Str))
def slotB (N : List PySem.Str) (sc : Scope) (i : Nat) (x : PySem.Str) : Bool := decide (N[i]? = some x) && visB sc x && !(x == ("__debug__" : PySem.Str)) && !(x == ("__classdict__" : PySem.Str))
def storeB (N : List PySem.Str) (sc : Scope) (i : Nat) (x : PySem.Str) : Bool := decide (N[i]? = some x) && locB sc x
mutual
def chkT (N : List PySem.Str) (sc : Scope) : IT → Expr → Bool
  | .name i, .Name x _ => storeB N sc i x
  | .tup n ts, .Tuple es _ _ => decide (es.length = n) && chkTs N sc ts es
  | _, _ => false
def chkTs (N : List PySem.Str) (sc : Scope) : ITs → List Expr → Bool
  | .nil, [] => true
  | .cons t ts, e :: es => chkT N sc t e && chkTs N sc ts es
  | _, _ => false
end
def callArgs : Expr → Option (PySem.Str × List Expr)
  | .Call (.Name x _) xs [] _ => some (x, xs)
  | _ => none
def isTupE : Expr → Bool
  | .Tuple _ _ _ => true
  | _ => false
theorem callArgs_some {e : Expr} {x : PySem.Str} {xs : List Expr} (h : callArgs e = some (x, xs)) : ∃ p pos, e = .Call (.Name x p) xs [] pos := by
  unfold callArgs at h
  split at h
  · cases h; exact ⟨_, _, rfl⟩
  · cases h
theorem isTupE_some {e : Expr} (h : isTupE e = true) : ∃ elts k p, e = .Tuple elts k p := by
  unfold isTupE at h
  split at h
  · exact ⟨_, _, _, rfl⟩
  · cases h
/-- x.items() -/
def itemsOf : Expr → Option PySem.Str
  | .Call (.Attribute (.Name x _) m ap) [] [] cp => if m = "items" ∧ ap.endLine = cp.line then some x else none
  | _ => none
theorem itemsOf_some {e : Expr} {x : PySem.Str} (h : itemsOf e = some x) : ∃ p ap cp, e = .Call (.Attribute (.Name x p) "items" ap) [] [] cp ∧ ap.endLine = cp.line := by
  unfold itemsOf at h
  split at h
  · split at h
    · rename_i q
      cases h
      obtain ⟨rfl, q⟩ := q
      exact ⟨_, _, _, rfl, q⟩
    · cases h
  · cases h
mutual
def chkE (N : List PySem.Str) : Scope → IE → Expr → Bool
  | sc, .var i, .Name x _ => slotB N sc i x
  | sc, .cst c, .Constant c' _ _ => decide (c = c') && (constD c).isSome
  | sc, .glob x, .Name y _ => decide (x = y) && glB sc x
  | sc, .tup es, .Tuple xs _ _ => chkL N sc es xs
  | sc, .lst es, .List xs _ => chkL N sc es xs
  | sc, .bin o a b, .BinOp l o' r _ => decide (o = o') && chkE N sc a l && chkE N sc b r
  | sc, .neg a, .UnaryOp .USub x _ => chkE N sc a x
  | sc, .cmp o a b, .Compare l [o'] [r] _ => decide (o = o') && chkE N sc a l && chkE N sc b r
  | sc, .chain o p a b c, .Compare l [o', p'] [r, q] _ => decide (o = o') && decide (p = p') && chkE N sc a l && chkE N sc b r && chkE N sc c q
  | sc, .not a, .UnaryOp .Not x _ => chkE N sc a x
  | sc, .and es, .BoolOp .And xs _ => !es.isNil && chkL N sc es xs
  | sc, .or es, .BoolOp .Or xs _ => !es.isNil && chkL N sc es xs
  | sc, .ife t a b, .IfExp t' a' b' _ => chkE N sc t t' && chkE N sc a a' && chkE N sc b b'
  | sc, .ix a b, .Subscript v s _ => chkE N sc a v && chkE N sc b s
  | sc, .sl a lo hi, .Subscript v (.Slice l h none _) _ => chkE N sc a v && chkO N sc lo l && chkO N sc hi h
  | sc, .call f es, .Call (.Name x _) xs [] _ => decide (f = x) && glB sc x && chkL N sc es xs
  | sc, .blt b es, .Call (.Name x _) xs [] _ => decide (b.name = x) && glB sc x && !es.isNil && chkL N sc es xs
  | sc, .isi T a, .Call (.Name x _) [e, .Name t _] [] _ => decide (x = "isinstance") && decide (t = T.name) && glB sc x && glB sc t && chkE N sc a e
  | sc, .pop i, .Call (.Attribute (.Name x _) m ap) [] [] pos => decide (m = "pop") && slotB N sc i x && decide (ap.endLine = pos.line)
  | sc, .popAt i a, .Call (.Attribute (.Name x _) m ap) [e] [] pos => decide (m = "pop") && slotB N sc i x && decide (ap.endLine = pos.line) && chkE N sc a e
  | sc, .app i a, .Call (.Attribute (.Name x _) m ap) [e] [] pos => decide (m = "append") && slotB N sc i x && decide (ap.endLine = pos.line) && chkE N sc a e
  | sc, .kget x a k, .Call (.Attribute (.Name y _) m ap) [e, .Constant (.int k') _ _] [] pos => decide (m = "get") && decide (x = y) && glB sc x && decide (ap.endLine = pos.line) && decide (k' = k) && chkE N sc a e
  | sc, .callk f es, .Call (.Name x _) xs [] _ => decide (f = x) && glB sc x && !es.isNil && chkL N sc es xs
  | sc, .callf f es, .Call (.Name x _) xs [] _ => decide (f = x) && glB sc x && !es.isNil && chkL N sc es xs
  | sc, .sset a, .Call (.Name x _) [.Call (.Name y _) [e] [] _] [] _ => decide (x = "sorted") && decide (y = "set") && glB sc x && glB sc y && chkE N sc a e
  | sc, .sortE a, .Call (.Name x _) [e] [] _ => decide (x = "sorted") && glB sc x && chkE N sc a e
  | sc, .ext i a, .Call (.Attribute (.Name x _) m ap) [e] [] pos => decide (m = "extend") && slotB N sc i x && decide (ap.endLine = pos.line) && chkE N sc a e
  | sc, .comp own tg it ifs elt, .ListComp elt' [⟨tgE, iter, ifs', a⟩] scope _ => decide (a = 0) && blkC N sc scope own && (tgS tg).all (fun s => (own.map (·.2)).contains s) && chkT N scope tg tgE && chkI N sc it tgE iter && chkL N (relS scope sc) ifs ifs' && chkE N (relS scope sc) elt elt'
  | sc, .comp2 own tg it vs1 tg1 it1 ifs elt, .ListComp elt' [⟨tgE, iter, [], a⟩, ⟨tgE1, iter1, ifs', a1⟩] scope _ => decide (a = 0) && decide (a1 = 0) && blkC N sc scope own && (tgS tg).all (fun s => (own.map (·.2)).contains s) && vs1.all (fun s => (own.map (·.2)).contains s) && (tgS tg1).all (fun s => vs1.contains s) && chkT N scope tg tgE && chkI N sc it tgE iter && chkT N scope tg1 tgE1 && chkI N (relS scope sc) it1 tgE1 iter1 && chkL N (relS scope sc) ifs ifs' && chkE N (relS scope sc) elt elt'
  | sc, .dcomp own tg it k v, .DictComp k' v' [⟨tgE, iter, [], a⟩] scope _ => decide (a = 0) && blkC N sc scope own && (tgS tg).all (fun s => (own.map (·.2)).contains s) && chkT N scope tg tgE && chkI N sc it tgE iter && chkE N (relS scope sc) k k' && chkE N (relS scope sc) v v'
  | _, .dnew, .Dict [] [] _ => true
  | sc, .disp k v, .Dict [some k'] [v'] _ => chkE N sc k k' && chkE N sc v v'
  | sc, .dget o k d, .Call (.Attribute (.Name x _) m ap) [e, f] [] pos => decide (m = "get") && slotB N sc (match o with | .var i => i | _ => 0) x && decide (ap.endLine = pos.line) && (match o with | .var _ => true | _ => false) && chkE N sc k e && chkE N sc d f
  | sc, .tidx o k, .Call (.Attribute (.Name x _) m ap) [e] [] pos => decide (m = "index") && slotB N sc (match o with | .var i => i | _ => 0) x && decide (ap.endLine = pos.line) && (match o with | .var _ => true | _ => false) && chkE N sc k e
  | sc, .rg1 t a, .Call (.Name x _) [.Call (.Name y _) [e] [] _] [] _ => decide (x = rgN t) && decide (y = "range") && glB sc x && glB sc y && chkE N sc a e
  | sc, .rg2 t a b, .Call (.Name x _) [.Call (.Name y _) [e, f] [] _] [] _ => decide (x = rgN t) && decide (y = "range") && glB sc x && glB sc y && chkE N sc a e && chkE N sc b f
  | sc, .lzip a b, .Call (.Name x _) [.Call (.Name y _) [e, f] [] _] [] _ => decide (x = "list") && decide (y = "zip") && glB sc x && glB sc y && chkE N sc a e && chkE N sc b f
  | sc, .compI own tg i ifs elt, .ListComp elt' [⟨tgE, iter, ifs', a⟩] scope _ => match itemsOf iter with
    | some x => decide (a = 0) && isTupE tgE && slotB N sc i x && blkC N sc scope own && (tgS tg).all (fun s => (own.map (·.2)).contains s) && chkT N scope tg tgE && chkL N (relS scope sc) ifs ifs' && chkE N (relS scope sc) elt elt'
    | none => false
  | sc, .bitlen i, .Call (.Attribute (.Name x _) m ap) [] [] pos => decide (m = "bit_length") && slotB N sc i x && decide (ap.endLine = pos.line)
  | sc, .rvl a, .Subscript v (.Slice none none (some (.UnaryOp .USub (.Constant (.int 1) _ _) _)) _) _ => chkE N sc a v
  | _, .stuck, .Call _ _ _ _ => true
  | _, .stuck, .Attribute _ _ _ => true
  | _, _, _ => false
def chkL (N : List PySem.Str) : Scope → IL → List Expr → Bool
  | _, .nil, [] => true
  | sc, .cons a as, e :: es => chkE N sc a e && chkL N sc as es
  | _, _, _ => false
def chkO (N : List PySem.Str) : Scope → IO → Option Expr → Bool
  | _, .no, none => true
  | sc, .so a, some e => chkE N sc a e
  | _, _, _ => false
def chkI (N : List PySem.Str) : Scope → II → Expr → Expr → Bool
  | sc, .seq a, _, e => chkE N sc a e
  | sc, .rng1 a, _, e => match callArgs e with
    | some (x, [y]) => decide (x = "range") && glB sc x && chkE N sc a y
    | _ => false
  | sc, .rng2 a b, _, e => match callArgs e with
    | some (x, [y, z]) => decide (x = "range") && glB sc x && chkE N sc a y && chkE N sc b z
    | _ => false
  | sc, .enum a, t, e => match callArgs e with
    | some (x, [y]) => isTupE t && decide (x = "enumerate") && glB sc x && chkE N sc a y
    | _ => false
  | sc, .zip a b, t, e => match callArgs e with
    | some (x, [y, z]) => isTupE t && decide (x = "zip") && glB sc x && chkE N sc a y && chkE N sc b z
    | _ => false
  | sc, .rev a, _, e => match callArgs e with
    | some (x, [y]) => decide (x = "reversed") && glB sc x && chkE N sc a y
    | _ => false
  | sc, .revr a, _, e => match callArgs e with
    | some (x, [y]) => decide (x = "reversed") && glB sc x && (match callArgs y with
      | some (x2, [z]) => decide (x2 = "range") && glB sc x2 && chkE N sc a z
      | _ => false)
    | _ => false
end
def IE.isComp : IE → Bool
  | .comp .. => true
  | .comp2 .. => true
  | .dcomp .. => true
  | .compI .. => true
  | _ => false
def IE.isCI : IE → Bool
  | .compI .. => true
  | _ => false
def IE.isTup : IE → Bool
  | .tup _ => true
  | _ => false
def asg1 : Stmt → Option (Expr × Expr × Pos)
  | .Assign [t] e pos => some (t, e, pos)
  | _ => none
theorem asg1_some {st : Stmt} {t e : Expr} {pos : Pos} (h : asg1 st = some (t, e, pos)) : st = .Assign [t] e pos := by
  unfold asg1 at h
  split at h
  · cases h; rfl
  · cases h
def nameOf : Expr → Option PySem.Str
  | .Name x _ => some x
  | _ => none
theorem nameOf_some {e : Expr} {x : PySem.Str} (h : nameOf e = some x) : ∃ p, e = .Name x p := by
  unfold nameOf at h
  split at h
  · cases h; exact ⟨_, rfl⟩
  · cases h
/-- x[k] -/
def subOf : Expr → Option (PySem.Str × Expr)
  | .Subscript (.Name x _) k _ => some (x, k)
  | _ => none
theorem subOf_some {e k : Expr} {x : PySem.Str} (h : subOf e = some (x, k)) : ∃ p ps, e = .Subscript (.Name x p) k ps := by
  unfold subOf at h
  split at h
  · cases h; exact ⟨_, _, rfl⟩
  · cases h
def raiseOf : Stmt → Option PySem.Str
  | .Raise (some (.Call (.Name x _) [.Constant (.str _) _ _] [] _)) none _ => some x
  | _ => none
theorem raiseOf_some {st : Stmt} {x : PySem.Str} (h : raiseOf st = some x) : ∃ p m j p2 p3 p4, st = .Raise (some (.Call (.Name x p) [.Constant (.str m) j p2] [] p3)) none p4 := by
  unfold raiseOf at h
  split at h
  · cases h; exact ⟨_, _, _, _, _, _, rfl⟩
  · cases h
structure TryX where
  x : PySem.Str
  p0 : Pos
  call : Expr
  q0 : Pos
  c : PySem.Str
  np : Pos
  en : PySem.Str
  y : PySem.Str
  p : Pos
  n1 : PySem.Str
  p1 : Pos
  en1 : PySem.Str
  p2 : Pos
  R : PySem.Str
  p3 : Pos
  p4 : Pos
  n2 : PySem.Str
  p5 : Pos
  en2 : PySem.Str
  p6 : Pos
  ve : PySem.Str
  p7 : Pos
  p8 : Pos
  p9 : Pos
  q1 : Pos
  n3 : PySem.Str
  q2 : Pos
  en3 : PySem.Str
  q3 : Pos
  es : List Expr
  kk : Nat
  q4 : Pos
  q5 : Pos
  k2 : Nat
  q6 : Pos
  q7 : Pos
  q8 : Pos
  pos' : Pos
  pos : Pos
def TryX.stmt (t : TryX) : Stmt := .Try [.Assign [.Name t.x t.p0] t.call t.q0] [.ExceptHandler (some (.Name t.c t.np)) (some t.en) [.Assign [.Name t.y t.p] (.BoolOp .And [.Call (.Name t.n1 t.p1) [.Name t.en1 t.p2, .Name t.R t.p3] [] t.p4, .Call (.Name t.n2 t.p5) [.Name t.en2 t.p6, .Name t.ve t.p7] [] t.p8] t.p9) t.q1, .If (.Call (.Name t.n3 t.q2) [.Name t.en3 t.q3, .Tuple t.es t.kk t.q4] [] t.q5) [.Return (some (.Constant (.bool false) t.k2 t.q6)) t.q7] [] t.q8] t.pos'] [] [] t.pos
def tryOf : Stmt → Option TryX
  | .Try [.Assign [.Name x p0] call q0] [.ExceptHandler (some (.Name c np)) (some en) [.Assign [.Name y p] (.BoolOp .And [.Call (.Name n1 p1) [.Name en1 p2, .Name R p3] [] p4, .Call (.Name n2 p5) [.Name en2 p6, .Name ve p7] [] p8] p9) q1, .If (.Call (.Name n3 q2) [.Name en3 q3, .Tuple es kk q4] [] q5) [.Return (some (.Constant (.bool false) k2 q6)) q7] [] q8] pos'] [] [] pos => some ⟨x, p0, call, q0, c, np, en, y, p, n1, p1, en1, p2, R, p3, p4, n2, p5, en2, p6, ve, p7, p8, p9, q1, n3, q2, en3, q3, es, kk, q4, q5, k2, q6, q7, q8, pos', pos⟩
  | _ => none
theorem tryOf_some {st : Stmt} {t : TryX} (h : tryOf st = some t) : st = t.stmt := by
  unfold tryOf at h
  split at h
  · cases h; rfl
  · cases h
structure TryV where
  body : List Stmt
  R : PySem.Str
  np : Pos
  en : PySem.Str
  y1 : PySem.Str
  p1 : Pos
  n1 : PySem.Str
  p2 : Pos
  en1 : PySem.Str
  p3 : Pos
  es : List Expr
  kk : Nat
  p4 : Pos
  p5 : Pos
  q1 : Pos
  y2 : PySem.Str
  p6 : Pos
  y3 : PySem.Str
  p7 : Pos
  n2 : PySem.Str
  p8 : Pos
  en2 : PySem.Str
  p9 : Pos
  es2 : List Expr
  kk2 : Nat
  p10 : Pos
  p11 : Pos
  p12 : Pos
  q2 : Pos
  n3 : PySem.Str
  p13 : Pos
  en3 : PySem.Str
  p14 : Pos
  c : PySem.Str
  p15 : Pos
  p16 : Pos
  n4 : PySem.Str
  p17 : Pos
  en4 : PySem.Str
  p18 : Pos
  ve : PySem.Str
  p19 : Pos
  p20 : Pos
  y4 : PySem.Str
  p21 : Pos
  p22 : Pos
  p23 : Pos
  msg : PySem.Str
  k2 : Nat
  p24 : Pos
  q3 : Pos
  q4 : Pos
  msg2 : PySem.Str
  k3 : Nat
  q5 : Pos
  q6 : Pos
  pos2 : Pos
  pos : Pos
def TryV.stmt (t : TryV) : Stmt := .Try t.body [.ExceptHandler (some (.Name t.R t.np)) (some t.en) [.Assign [.Name t.y1 t.p1] (.Call (.Name t.n1 t.p2) [.Name t.en1 t.p3, .Tuple t.es t.kk t.p4] [] t.p5) t.q1, .Assign [.Name t.y2 t.p6] (.BoolOp .Or [.Name t.y3 t.p7, .Call (.Name t.n2 t.p8) [.Name t.en2 t.p9, .Tuple t.es2 t.kk2 t.p10] [] t.p11] t.p12) t.q2, .If (.BoolOp .And [.Call (.Name t.n3 t.p13) [.Name t.en3 t.p14, .Name t.c t.p15] [] t.p16, .Call (.Name t.n4 t.p17) [.Name t.en4 t.p18, .Name t.ve t.p19] [] t.p20, .UnaryOp .Not (.Name t.y4 t.p21) t.p22] t.p23) [.Return (some (.Constant (.str t.msg) t.k2 t.p24)) t.q3] [] t.q4, .Return (some (.Constant (.str t.msg2) t.k3 t.q5)) t.q6] t.pos2] [] [] t.pos
def tryvOf : Stmt → Option TryV
  | .Try body [.ExceptHandler (some (.Name R np)) (some en) [.Assign [.Name y1 p1] (.Call (.Name n1 p2) [.Name en1 p3, .Tuple es kk p4] [] p5) q1, .Assign [.Name y2 p6] (.BoolOp .Or [.Name y3 p7, .Call (.Name n2 p8) [.Name en2 p9, .Tuple es2 kk2 p10] [] p11] p12) q2, .If (.BoolOp .And [.Call (.Name n3 p13) [.Name en3 p14, .Name c p15] [] p16, .Call (.Name n4 p17) [.Name en4 p18, .Name ve p19] [] p20, .UnaryOp .Not (.Name y4 p21) p22] p23) [.Return (some (.Constant (.str msg) k2 p24)) q3] [] q4, .Return (some (.Constant (.str msg2) k3 q5)) q6] pos2] [] [] pos => some ⟨body, R, np, en, y1, p1, n1, p2, en1, p3, es, kk, p4, p5, q1, y2, p6, y3, p7, n2, p8, en2, p9, es2, kk2, p10, p11, p12, q2, n3, p13, en3, p14, c, p15, p16, n4, p17, en4, p18, ve, p19, p20, y4, p21, p22, p23, msg, k2, p24, q3, q4, msg2, k3, q5, q6, pos2, pos⟩
  | _ => none
theorem tryvOf_some {st : Stmt} {t : TryV} (h : tryvOf st = some t) : st = t.stmt := by
  unfold tryvOf at h
  split at h
  · cases h; rfl
  · cases h
/-- the parts of the third try -/
structure TryZ where
  body : List Stmt
  c : PySem.Str
  np : Pos
  en : PySem.Str
  n1 : PySem.Str
  p1 : Pos
  en1 : PySem.Str
  p2 : Pos
  es : List Expr
  kk : Nat
  p3 : Pos
  p4 : Pos
  k2 : Nat
  p5 : Pos
  q1 : Pos
  q2 : Pos
  n2 : PySem.Str
  p6 : Pos
  en2 : PySem.Str
  p7 : Pos
  R : PySem.Str
  p8 : Pos
  p9 : Pos
  n3 : PySem.Str
  p10 : Pos
  en3 : PySem.Str
  p11 : Pos
  ve : PySem.Str
  p12 : Pos
  p13 : Pos
  p14 : Pos
  q3 : Pos
  pos2 : Pos
  pos : Pos
def TryZ.stmt (t : TryZ) : Stmt := .Try t.body [.ExceptHandler (some (.Name t.c t.np)) (some t.en) [.If (.Call (.Name t.n1 t.p1) [.Name t.en1 t.p2, .Tuple t.es t.kk t.p3] [] t.p4) [.Return (some (.Constant (.bool false) t.k2 t.p5)) t.q1] [] t.q2, .Return (some (.BoolOp .And [.Call (.Name t.n2 t.p6) [.Name t.en2 t.p7, .Name t.R t.p8] [] t.p9, .Call (.Name t.n3 t.p10) [.Name t.en3 t.p11, .Name t.ve t.p12] [] t.p13] t.p14)) t.q3] t.pos2] [] [] t.pos
def tryzOf : Stmt → Option TryZ
  | .Try body [.ExceptHandler (some (.Name c np)) (some en) [.If (.Call (.Name n1 p1) [.Name en1 p2, .Tuple es kk p3] [] p4) [.Return (some (.Constant (.bool false) k2 p5)) q1] [] q2, .Return (some (.BoolOp .And [.Call (.Name n2 p6) [.Name en2 p7, .Name R p8] [] p9, .Call (.Name n3 p10) [.Name en3 p11, .Name ve p12] [] p13] p14)) q3] pos2] [] [] pos => some ⟨body, c, np, en, n1, p1, en1, p2, es, kk, p3, p4, k2, p5, q1, q2, n2, p6, en2, p7, R, p8, p9, n3, p10, en3, p11, ve, p12, p13, p14, q3, pos2, pos⟩
  | _ => none
theorem tryzOf_some {st : Stmt} {t : TryZ} (h : tryzOf st = some t) : st = t.stmt := by
  unfold tryzOf at h
  split at h
  · cases h; rfl
  · cases h
/-- the parts of the fourth try -/
structure TryO where
  body : List Stmt
  c : PySem.Str
  np : Pos
  e : Expr
  q1 : Pos
  pos2 : Pos
  pos : Pos
def TryO.stmt (t : TryO) : Stmt := .Try t.body [.ExceptHandler (some (.Name t.c t.np)) none [.Return (some t.e) t.q1] t.pos2] [] [] t.pos
def tryoOf : Stmt → Option TryO
  | .Try body [.ExceptHandler (some (.Name c np)) none [.Return (some e) q1] pos2] [] [] pos => some ⟨body, c, np, e, q1, pos2, pos⟩
  | _ => none
theorem tryoOf_some {st : Stmt} {t : TryO} (h : tryoOf st = some t) : st = t.stmt := by
  unfold tryoOf at h
  split at h
  · cases h; rfl
  · cases h
/-- what the fourth try may give back: x is None, len(x) > n -/
def hkB : IE → Bool
  | .cmp .Is (.var _) (.cst .none) => true
  | .cmp .Gt (.blt .len (.cons (.var _) .nil)) (.cst (.int _)) => true
  | _ => false
def hkL : IE → Bool
  | .cmp .Gt _ _ => true
  | _ => false
/-- (c, ..) = (..) is no swap -/
def noSwB : Expr → Bool
  | .Tuple vs _ _ => (vs.length != 2 && vs.length != 3) || vs.all (foldedForSure 8)
  | _ => true
/-- y = {.. for .. in ..} -/
structure SDE where
  y : PySem.Str
  py : Pos
  kx : Expr
  vx : Expr
  tgE : Expr
  iter : Expr
  a : Int
  scope : Scope
  pos : Pos
  spos : Pos
def SDE.stmt (t : SDE) : Stmt := .Assign [.Name t.y t.py] (.DictComp t.kx t.vx [⟨t.tgE, t.iter, [], t.a⟩] t.scope t.pos) t.spos
def sdeOf : Stmt → Option SDE
  | .Assign [.Name y py] (.DictComp kx vx [⟨tgE, iter, [], a⟩] scope pos) spos => some ⟨y, py, kx, vx, tgE, iter, a, scope, pos, spos⟩
  | _ => none
theorem sdeOf_some {st : Stmt} {t : SDE} (h : sdeOf st = some t) : st = t.stmt := by
  unfold sdeOf at h
  split at h
  · cases h; rfl
  · cases h
def ownOf : Bool → Expr → Option PySem.Str
  | false, .Name x _ => some x
  | true, .Call (.Name f _) [.Name x _] [] _ => if f = "enumerate" then some x else none
  | _, _ => none
theorem ownOf_f {e : Expr} {x : PySem.Str} (h : ownOf false e = some x) : ∃ p, e = .Name x p := by
  cases e <;> first | (cases h; done) | (cases h; exact ⟨_, rfl⟩)
theorem ownOf_t {e : Expr} {x : PySem.Str} (h : ownOf true e = some x) : ∃ p p2 pos, e = .Call (.Name "enumerate" p2) [.Name x p] [] pos := by
  unfold ownOf at h
  split at h
  · contradiction
  · split at h
    · rename_i hf
      cases h; subst hf; exact ⟨_, _, _, rfl⟩
    · cases h
  · cases h
def namesAre (sc : Scope) : List Expr → List PySem.Str → Bool
  | [], [] => true
  | .Name x _ :: es, c :: cs => decide (x = c) && glB sc x && namesAre sc es cs
  | _, _ => false
def isPass : Stmt → Bool
  | .Pass _ => true
  | .Expr (.Constant (.str _) _ _) _ => true
  | _ => false
mutual
def chkS (N : List PySem.Str) (sc : Scope) : IS → Stmt → Bool
  | .set i a, st => match asg1 st with
    | some (t, e, _) => match nameOf t with
      | some x => storeB N sc i x && chkE N sc a e && !a.isCI
      | none => false
    | none => false
  | .tgt t a, st => match asg1 st with
    | some (tg, e, _) => isTupE tg && chkT N sc t tg && chkE N sc a e && (!a.isTup || noSwB e) && !a.isComp
    | none => false
  | .aug i o a, .AugAssign t o' e _ => match nameOf t with
    | some x => storeB N sc i x && decide (o = o') && chkE N sc a e
    | none => false
  | .sub i a b, st => match asg1 st with
    | some (t, e, _) => match subOf t with
      | some (x, k) => slotB N sc i x && chkE N sc a k && chkE N sc b e && !b.isComp
      | none => false
    | none => false
  | .saug i o a b, .AugAssign t o' e _ => match subOf t with
    | some (x, k) => slotB N sc i x && decide (o = o') && chkE N sc a k && chkE N sc b e
    | none => false
  | .expr a, .Expr e _ => chkE N sc a e && !a.isComp
  | .ret a, .Return eo _ => match eo with
    | some e => chkE N sc a e
    | none => false
  | .retN, .Return eo _ => eo.isNone
  | .ite t a b, .If c x y _ => chkE N sc t c && chkSs N sc a x && chkSs N sc b y
  | .for t it b, .For tg iter body oe _ => oe.isEmpty && chkT N sc t tg && chkI N sc it tg iter && chkSs N sc b body
  | .forI i t b, .For tg iter body oe _ => match itemsOf iter with
    | some x => oe.isEmpty && isTupE tg && slotB N sc i x && chkT N sc t tg && chkSs N sc b body
    | none => false
  | .forO j t k a b, .For tg iter body oe _ => match nameOf iter with
    | some y => oe.isEmpty && slotB N sc j y && chkT N sc t tg && !(tgS t).contains j && (match body with
      | [st] => match asg1 st with
        | some (tt, e, _) => match subOf tt with
          | some (x, kk) => slotB N sc k x && chkE N sc a kk && chkE N sc b e && !b.isComp
          | none => false
        | none => false
      | _ => false)
    | none => false
  | .setDE i own tg en j k v, st => match sdeOf st with
    | some t => match ownOf en t.iter with
      | some x => (decide (t.a = 0) && storeB N sc i t.y && decide (sc.names.lookup t.y = some .local) && decide (t.py.line = t.pos.line) && !(t.scope.names.any fun (n, k) => n == t.y && (k == .local || k == .cell)) && slotB N sc j x && (!en || (isTupE t.tgE && glB sc "enumerate")))
        && (blkC N sc t.scope own && (tgS tg).all (fun s => (own.map (·.2)).contains s) && chkT N t.scope tg t.tgE && chkE N (relS t.scope sc) k t.kx && chkE N (relS t.scope sc) v t.vx)
      | none => false
    | none => false
  | .while t b, .While c body oe _ => oe.isEmpty && chkE N sc t c && chkSs N sc b body
  | .brk, .Break _ => true
  | .cnt, .Continue _ => true
  | .pass, st => isPass st
  | .tryx i j k c R cs a, st => match tryOf st with
    | some t => decide (t.c = c) && decide (t.R = R) && decide (t.n1 = "isinstance") && decide (t.n2 = "isinstance") && decide (t.n3 = "isinstance") && decide (t.en1 = t.en) && decide (t.en2 = t.en) && decide (t.en3 = t.en) && decide (t.ve = "ValueError") && storeB N sc i t.x && storeB N sc j t.y && slotB N sc k t.en && decide (sc.names.lookup t.en = some .local) && decide (k ≠ j) && glB sc c && glB sc R && glB sc "isinstance" && glB sc "ValueError" && namesAre sc t.es cs && decide (cs.length ≤ 1000) && chkE N sc a t.call && !a.isComp
    | none => false
  | .tryv k j c R cs cs' msg b, st => match tryvOf st with
    | some t => (decide (t.c = c) && decide (t.R = R) && decide (t.n1 = "isinstance") && decide (t.n2 = "isinstance") && decide (t.n3 = "isinstance") && decide (t.n4 = "isinstance") && decide (t.en1 = t.en) && decide (t.en2 = t.en) && decide (t.en3 = t.en) && decide (t.en4 = t.en) && decide (t.ve = "ValueError") && decide (t.y2 = t.y1) && decide (t.y3 = t.y1) && decide (t.y4 = t.y1) && decide (t.msg = msg))
      && (storeB N sc j t.y1 && slotB N sc j t.y1 && slotB N sc k t.en && decide (sc.names.lookup t.en = some .local) && decide (k ≠ j) && glB sc c && glB sc R && glB sc "isinstance" && glB sc "ValueError" && namesAre sc t.es cs && decide (cs.length ≤ 1000) && namesAre sc t.es2 cs' && decide (cs'.length ≤ 1000)) && chkSs N sc b t.body
    | none => false
  | .tryz k c R cs b, st => match tryzOf st with
    | some t => (decide (t.c = c) && decide (t.R = R) && decide (t.n1 = "isinstance") && decide (t.n2 = "isinstance") && decide (t.n3 = "isinstance") && decide (t.en1 = t.en) && decide (t.en2 = t.en) && decide (t.en3 = t.en) && decide (t.ve = "ValueError"))
      && (slotB N sc k t.en && decide (sc.names.lookup t.en = some .local) && glB sc c && glB sc R && glB sc "isinstance" && glB sc "ValueError" && namesAre sc t.es cs && decide (cs.length ≤ 1000)) && chkSs N sc b t.body
    | none => false
  | .tryo c R b a, st => match tryoOf st with
    | some t => decide (t.c = c) && hkB a && glB sc c && (!hkL a || glB sc "len") && chkE N sc a t.e && chkSs N sc b t.body
    | none => false
  | .stuck, _ => true
  | .raise c, st => match raiseOf st with
    | some x => decide (c = x) && glB sc x
    | none => false
  | _, _ => false
def chkSs (N : List PySem.Str) (sc : Scope) : ISs → List Stmt → Bool
  | .nil, [] => true
  | .cons a as, s :: ss => chkS N sc a s && chkSs N sc as ss
  | _, _ => false
end
end PyI

namespace PyI
open PySem PySem.Spec L2 PyProof.Rows

/-! ## the evaluator is sound -/
def bltNamesAll : List PySem.Str := ["len", "int", "abs", "max", "min", "sum", "any", "all", "list", "tuple", "divmod", "str", "sorted", "isinstance", "range", "enumerate", "zip", "reversed", "bool", "set"]
/-- an exception class of the module -/
def ExcF (X : Cx) (c : PySem.Str) : Prop := ∃ C, PySem.W.excIn X.K C [.type "ValueError", .type "Exception", .type "BaseException", .type "object"] "ValueError.__new__" = true ∧ X.mg c = some (.ref C) ∧ PySem.W.keepIn X.K (.ref C) = true ∧ Raises X (.ref C)
/-- the classes that a try of the module names -/
def TriF (X : Cx) (c R : PySem.Str) (cs : List PySem.Str) : Prop := ∃ (D Ra : Addr) (As : List Addr), ExcC X.K D ∧ X.mg c = some (.ref D) ∧ PySem.W.exmOne X.K (.ref D) (.ref D) = some true ∧ X.mg R = some (.ref Ra) ∧ PySem.W.kitOne X.K (.ref D) (.ref Ra) = some true ∧ PySem.W.kitOne X.K (.ref D) (.type "ValueError") = some true ∧
  cs.map X.mg = As.map (fun a => some (.ref a)) ∧ PySem.W.kitAny X.K (.ref D) (As.map Value.ref) = some false ∧ X.mg "ValueError" = none ∧ PySem.W.exmOne X.K (.ref D) (.ref Ra) = some true ∧ PySem.W.kitOne X.K (.ref D) (.ref D) = some true
structure GX (P : Prg) (n : Nat) (N : List PySem.Str) (sc : Scope) (X : Cx) (W : WX) : Prop where
  hN : X.N = N
  hsc : X.env.scope = sc
  nd : N.Nodup
  knd : sc.kind = .function
  tk : Takes X W
  un : X.A.units + 65 < cLine
  calm : X.calm = true
  room : Room n X.A
  call : ∀ x np cf, P.call x = some (np, cf) → FnL X n x np cf
  con : ∀ x d, P.con x = some d → GlobOk X x d
  free : ∀ x ∈ bltNamesAll, X.mg x = none
  exc : ∀ c, P.exc c = true → ExcF X c
  tri : ∀ c R cs, P.tri c R cs = true → TriF X c R cs
  dic : ∀ x kvs, P.dic x = some kvs → DicOk X x kvs
  callF : ∀ x np cf, P.callF x = some (np, cf) → FnF X n x np cf

section
variable {N : List PySem.Str} {sc : Scope} {ie : IE} {e : Expr}
theorem slotB_all {i : Nat} {x : PySem.Str} (h : slotB N sc i x = true) : N[i]? = some x ∧ (sc.names.lookup x = some .local ∨ sc.names.lookup x = some .cell ∨ sc.names.lookup x = some .free) ∧ (x == ("__debug__" : PySem.Str)) = false ∧ (x == ("__classdict__" : PySem.Str)) = false := by
  unfold slotB at h
  simp only [Bool.and_eq_true, decide_eq_true_eq, Bool.not_eq_true'] at h
  obtain ⟨⟨⟨h1, h2⟩, h3⟩, h4⟩ := h
  refine ⟨h1, ?_, h3, h4⟩
  unfold visB at h2
  split at h2 <;> first | exact .inl (by assumption) | exact .inr (.inl (by assumption)) | exact .inr (.inr (by assumption)) | cases h2
theorem storeB_all {i : Nat} {x : PySem.Str} (h : storeB N sc i x = true) : N[i]? = some x ∧ locB sc x = true ∧ (sc.names.lookup x = some .local ∨ sc.names.lookup x = some .cell) := by
  unfold storeB at h
  simp only [Bool.and_eq_true, decide_eq_true_eq] at h
  refine ⟨h.1, h.2, ?_⟩
  have h2 := h.2
  unfold locB at h2
  split at h2 <;> first | exact .inl (by assumption) | exact .inr (by assumption) | cases h2
theorem glB_all {x : PySem.Str} (h : glB sc x = true) : sc.names.lookup x = some .globalImplicit ∧ (x == ("__debug__" : PySem.Str)) = false := by
  unfold glB at h
  simp only [Bool.and_eq_true, Bool.not_eq_true'] at h
  refine ⟨?_, h.2⟩
  have h1 := h.1
  split at h1 <;> first | assumption | cases h1
theorem chk_star (h : chkE N sc ie e = true) (es : List Expr) (env : PySem.Env) : starEach (e :: es) env = (false, eval e env) :: starEach es env := by
  cases e <;> first | rfl | (cases ie <;> simp [chkE] at h)
theorem chkL_star : ∀ {il : IL} {xs : List Expr} (h : chkL N sc il xs = true) (pos : Pos) (env : PySem.Env), (backTo pos (starEach xs env)).any (·.1) = false
  | .nil, [], _, _, _ => rfl
  | .nil, _ :: _, h, _, _ => by simp [chkL] at h
  | .cons _ _, [], h, _, _ => by simp [chkL] at h
  | .cons a as, x :: xs, h, pos, env => by
    simp only [chkL, Bool.and_eq_true] at h
    rw [chk_star h.1]
    have := chkL_star h.2 pos env
    unfold backTo at this ⊢
    rw [List.map_cons, List.any_cons, this]
    rfl
theorem chk_swap (h : chkE N sc ie e = true) (hc : ie.isComp = false) (t : Option Expr) (l : Nat) (env : PySem.Env) : swapsWith e t l env = pure false := by
  cases e <;> first | rfl | (cases ie <;> first | (simp [chkE] at h; done) | cases hc)
theorem chk_plain (h : chkE N sc ie e = true) : PlainIx e := by
  cases e <;> first | (intro o i; rfl) | (cases ie <;> simp [chkE] at h)
theorem chk_behind (h : chkE N sc ie e = true) (op : CmpOp) : behindInMarks op e = false := by
  cases e <;> first | rfl | (cases ie <;> simp [chkE] at h)
theorem chk_fold (h : chkE N sc ie e = true) (env : PySem.Env) (x : Value) : foldedSetIterable e env x = pure x := by
  cases e <;> first | rfl | (cases ie <;> simp [chkE] at h)
theorem chkI_fold {it : II} {tg : Expr} (h : chkI N sc it tg e = true) (env : PySem.Env) (x : Value) : foldedSetIterable e env x = pure x := by
  cases it with
  | seq a => simp only [chkI] at h; exact chk_fold (ie := a) h env x
  | _ =>
    simp only [chkI] at h
    split at h
    · rename_i hc
      obtain ⟨p, pos, rfl⟩ := callArgs_some hc
      rfl
    · cases h
/-- forms whose test is their value's truth -/
def IE.plainT : IE → Bool
  | .not _ => false
  | .and _ => false
  | .or _ => false
  | .cmp .. => false
  | .chain .. => false
  | .ife .. => false
  | _ => true
theorem chk_isTrue (h : chkE N sc ie e = true) (hp : ie.plainT = true) (env : PySem.Env) : ∀ whole, isTrue e env whole = (do let v ← whole; standAt e.pos; holding [v] (truthy v)) := by
  cases e with
  | BoolOp op _ _ => cases ie <;> first | (simp [chkE] at h; done) | (cases hp; done)
  | UnaryOp op _ _ => cases op <;> cases ie <;> first | (simp [chkE] at h; done) | (intro _; rfl) | (cases hp; done)
  | Compare _ _ _ _ => cases ie <;> first | (simp [chkE] at h; done) | (cases hp; done)
  | _ => first | (intro _; rfl) | (cases ie <;> first | (simp [chkE] at h; done) | (intro _; rfl) | (cases hp; done))
end
section
variable {P : Prg} {n : Nat} {N : List PySem.Str} {sc : Scope} {X : Cx} {W : WX}
theorem GX.vis (G : GX P n N sc X W) {i : Nat} {x : PySem.Str} (h : slotB N sc i x = true) : X.N[i]? = some x ∧ Vis X.env.scope x ∧ (x == ("__debug__" : PySem.Str)) = false ∧ (x == ("__classdict__" : PySem.Str)) = false := by
  obtain ⟨h1, h2, h3, h4⟩ := slotB_all h
  exact ⟨by rw [G.hN]; exact h1, by rw [G.hsc]; exact h2, h3, h4⟩
theorem GX.gl (G : GX P n N sc X W) {x : PySem.Str} (h : glB sc x = true) : Gl X x ∧ (x == ("__debug__" : PySem.Str)) = false := by
  obtain ⟨h1, h2⟩ := glB_all h
  refine ⟨?_, h2⟩
  show X.env.scope.names.lookup x = _
  rw [G.hsc]; exact h1
theorem GX.ndX (G : GX P n N sc X W) : X.N.Nodup := by rw [G.hN]; exact G.nd
theorem PE.fail {e : Expr} : PE X e (tE X W mFail) := ⟨fun _ _ _ _ _ _ ⟨_, _, _, _, _, _, _, h, _⟩ => nomatch h⟩
theorem PE.failD {e : Expr} : PE X e (tD X W mFail) := ⟨fun _ _ _ _ _ _ ⟨_, _, _, _, _, _, _, h, _⟩ => nomatch h⟩
theorem PT.fail {e : Expr} : PT X e (tT X W mFail) := ⟨fun _ _ _ _ _ _ ⟨_, _, _, _, _, _, _, h, _⟩ => nomatch h⟩
theorem PTs.fail {es : List Expr} : PTs X es (tT X W mFail) := ⟨fun _ _ _ _ _ _ ⟨_, _, _, _, _, _, _, h, _⟩ => nomatch h⟩
/-- the block of a comprehension -/
theorem GX.blk (G : GX P n N sc X W) {scope : Scope} {own : List (PySem.Str × Nat)} (hk : blkC N sc scope own = true) (s : Shared) (H : Hp) (C : Addr) (cl : List (PySem.Str × Addr)) (fp : List Addr) : GX P n N (relS scope sc) (blkX X scope s H C cl fp) W0 where
  hN := G.hN
  hsc := by
    show relS scope X.env.scope = _
    rw [G.hsc]
  nd := G.nd
  knd := (blkOk_by hk).kind
  tk := takes0
  un := G.un
  calm := G.calm
  room := G.room
  call := fun x np cf h => ⟨(G.call x np cf h).ex⟩
  con := G.con
  free := G.free
  exc := fun c h => by
    obtain ⟨C, h1, h2, h3, h4⟩ := G.exc c h
    exact ⟨C, h1, h2, h3, h4⟩
  tri := G.tri
  dic := G.dic
  callF := fun x np cf h => ⟨(G.callF x np cf h).ex⟩

/-- what stores at a target want -/
def StOk (N : List PySem.Str) (sct : Scope) (X : Cx) : Prop := ∀ i x, storeB N sct i x = true → X.N[i]? = some x ∧ Loc X.env.scope x ∧ (X.fn x = true ∨ X.env.scope.names.lookup x = some .local)
theorem StOk.blk (G : GX P n N sc X W) {scope : Scope} (s : Shared) (H : Hp) (C : Addr) (cl : List (PySem.Str × Addr)) (fp : List Addr) : StOk N scope (blkX X scope s H C cl fp) := fun i x h => by
  obtain ⟨h1, _, h3⟩ := storeB_all h
  refine ⟨by show X.N[i]? = _; rw [G.hN]; exact h1, ?_, ?_⟩
  · show (relS scope X.env.scope).names.lookup x = _ ∨ _
    rcases h3 with h3 | h3
    · exact .inl (lookup_relS_keep (by decide) h3)
    · exact .inr (lookup_relS_keep (by decide) h3)
  · rcases h3 with h3 | h3
    · exact .inr (lookup_relS_keep (by decide) h3)
    · refine .inl ?_
      show (scope.names.lookup x == some NameKind.cell) = true
      rw [h3]; rfl
theorem chkT_star {sct : Scope} {t : IT} {e : Expr} (h : chkT N sct t e = true) (es : List Expr) (env : PySem.Env) : assignEach (e :: es) env = (false, assign e env) :: assignEach es env := by
  cases e <;> first | rfl | (cases t <;> simp [chkT] at h)
theorem chkTs_each {sct : Scope} : ∀ {ts : ITs} {es : List Expr} (h : chkTs N sct ts es = true) (env : PySem.Env), (assignEach es env).length = es.length ∧ (assignEach es env).findIdx? (·.1) = none
  | .nil, [], _, _ => ⟨rfl, rfl⟩
  | .nil, _ :: _, h, _ => by simp [chkTs] at h
  | .cons _ _, [], h, _ => by simp [chkTs] at h
  | .cons t ts, e :: es, h, env => by
    simp only [chkTs, Bool.and_eq_true] at h
    obtain ⟨h1, h2⟩ := chkTs_each h.2 env
    rw [chkT_star h.1]
    refine ⟨by rw [List.length_cons, List.length_cons, h1], ?_⟩
    rw [List.findIdx?_cons, h2]
    rfl
mutual
theorem sndT {sct : Scope} (G : X.N.Nodup) (hc : X.calm = true) (S : StOk N sct X) : ∀ (t : IT) (e : Expr), chkT N sct t e = true → PG X e (tG X (twE e) (tgS t) (tgF t))
  | .name i, e, h => by
    cases e <;> first | (simp [chkT] at h; done) | skip
    rename_i x pos
    simp only [chkT] at h
    obtain ⟨h1, h2, h3⟩ := S i x h
    simp only [tgS, tgF]
    exact gname_ok G h1 h2 h3
  | .tup n ts, e, h => by
    cases e <;> first | (simp [chkT] at h; done) | skip
    rename_i es k pos
    simp only [chkT, Bool.and_eq_true, decide_eq_true_eq] at h
    obtain ⟨h1, h2⟩ := chkTs_each h.2 X.env
    simp only [tgS, tgF]
    exact gtup_ok hc (sndTs G hc S ts es h.2) (by rw [h1]; exact h.1) h2
theorem sndTs {sct : Scope} (G : X.N.Nodup) (hc : X.calm = true) (S : StOk N sct X) : ∀ (ts : ITs) (es : List Expr), chkTs N sct ts es = true → PGs X es (tGs X (tgsS ts) (tgsF ts))
  | .nil, [], _ => by simp only [tgsS, tgsF]; exact gnil_ok
  | .nil, _ :: _, h => by simp [chkTs] at h
  | .cons _ _, [], h => by simp [chkTs] at h
  | .cons t ts, e :: es, h => by
    simp only [chkTs, Bool.and_eq_true] at h
    simp only [tgsS, tgsF]
    exact gcons_ok (sndT G hc S t e h.1) (sndTs G hc S ts es h.2) (by rw [chkT_star h.1]; rfl)
end

/-- an operand -/
theorem oE_ok {ie : IE} {e : Expr} (G : GX P n N sc X W) (h : chkE N sc ie e = true) (he : PE X e (tE X W (ev P ie).e)) : PE X e (tO X W (oE ie (ev P ie).e)) := by
  unfold oE
  split
  · rename_i i
    cases e <;> first | (simp [chkE] at h; done) | skip
    simp only [chkE] at h
    obtain ⟨h1, h2, h3, h4⟩ := G.vis h
    exact ovar_ok h1 h2 h3 h4
  · exact op1_ok (fz_ok he)
abbrev SndE (P : Prg) (X : Cx) (W : WX) (ie : IE) (e : Expr) : Prop := PE X e (tE X W (ev P ie).e) ∧ PT X e (tT X W (ev P ie).t)
theorem mkE_ok {ie : IE} {e : Expr} {f : M (PyData × Bool)} (G : GX P n N sc X W) (h : chkE N sc ie e = true) (hp : ie.plainT = true) (ef : ev P ie = mkE ie f) (he : PE X e (tE X W f)) : SndE P X W ie e := by
  have e1 : (ev P ie).e = f := by rw [ef]; rfl
  have e2 : (ev P ie).t = fTru (oE ie f) := by rw [ef]; rfl
  have he' : PE X e (tE X W (ev P ie).e) := by rw [e1]; exact he
  refine ⟨he', ?_⟩
  have ho := oE_ok G h he'
  rw [e1] at ho
  rw [e2]
  exact tru_ok' ho (chk_isTrue h hp X.env)
end
end PyI

namespace PyI
open PySem PySem.Spec L2 PyProof.Rows
structure SndL (P : Prg) (X : Cx) (W : WX) (il : IL) (xs : List Expr) : Prop where
  v : PA X xs (tV X W (evL P il).v)
  a : PA X xs (tA X W (evL P il).a)
  bl : il.isNil = false → ∀ pos, PE X (.BoolOp .And xs pos) (tD X W (evL P il).andV) ∧ PE X (.BoolOp .Or xs pos) (tD X W (evL P il).orV) ∧ PW X (.BoolOp .And xs pos) (tT X W (evL P il).andT) ∧ PW X (.BoolOp .Or xs pos) (tT X W (evL P il).orT)
  one : PTs X xs (tT X W (evL P il).one)
section
variable {P : Prg} {n : Nat} {N : List PySem.Str}
theorem free_of {sc : Scope} {X : Cx} {W : WX} (G : GX P n N sc X W) (b : Blt) : X.mg b.name = none := G.free _ (by cases b <;> decide)
theorem sw_false {elt : Expr} {gs : List Comprehension} {scope : Scope} {pos : Pos} {x : PySem.Str} {px : Pos} {l : Nat} {env : PySem.Env} {b : Bool} (hk : env.scope.kind = .function) (h : (decide (env.scope.names.lookup x = some .local) && decide (px.line = pos.line) && !(scope.names.any fun (n, k) => n == x && (k == .local || k == .cell))) = b) :
    swapsWith (.ListComp elt gs scope pos) (some (.Name x px)) l env = pure b := by
  have hb : env.blockKind = .function := by unfold Env.blockKind; rw [hk]; rfl
  subst h
  have e1 : (env.kindOf x == some NameKind.local) = decide (env.scope.names.lookup x = some .local) := by
    unfold Env.kindOf
    by_cases q : env.scope.names.lookup x = some .local
    · rw [q]; rfl
    · rw [decide_eq_false q]; exact beq_eq_false_iff_ne.mpr q
  have e2 : (px.line == pos.line) = decide (px.line = pos.line) := by
    by_cases q : px.line = pos.line
    · rw [decide_eq_true q]; exact beq_iff_eq.mpr q
    · rw [decide_eq_false q]; exact beq_eq_false_iff_ne.mpr q
  unfold swapsWith
  simp only [hb, e1, Expr.pos, e2]
  rfl
theorem sw_falseD {kx vx : Expr} {gs : List Comprehension} {scope : Scope} {pos : Pos} {x : PySem.Str} {px : Pos} {l : Nat} {env : PySem.Env} {b : Bool} (hk : env.scope.kind = .function) (h : (decide (env.scope.names.lookup x = some .local) && decide (px.line = pos.line) && !(scope.names.any fun (n, k) => n == x && (k == .local || k == .cell))) = b) :
    swapsWith (.DictComp kx vx gs scope pos) (some (.Name x px)) l env = pure b := sw_false (elt := kx) (gs := gs) (l := l) hk h
theorem not_nil {il : IL} (h : (!il.isNil) = true) : il.isNil = false := by simpa using h
theorem cons_of {sc : Scope} {il : IL} {xs : List Expr} (hn : il.isNil = false) (h : chkL N sc il xs = true) : ∃ x r a b, xs = x :: r ∧ il = .cons a b ∧ chkE N sc a x = true ∧ chkL N sc b r = true := by
  cases il with
  | nil => cases hn
  | cons a b =>
    cases xs with
    | nil => simp [chkL] at h
    | cons x r =>
      simp only [chkL, Bool.and_eq_true] at h
      exact ⟨x, r, a, b, rfl, rfl, h.1, h.2⟩
mutual
theorem sndE : ∀ (ie : IE) (sc : Scope) (e : Expr) (X : Cx) (W : WX), chkE N sc ie e = true → GX P n N sc X W → SndE P X W ie e
  | .var i, sc, e, X, W, h, G => by
    cases e <;> first | (simp [chkE] at h; done) | skip
    have h' := h
    simp only [chkE] at h
    obtain ⟨h1, h2, h3, h4⟩ := G.vis h
    exact mkE_ok (ie := .var i) G h' rfl (by rw [ev]) (unfz_ok (var_ok h1 h2 h3 h4))
  | .cst c, sc, e, X, W, h, G => by
    cases e <;> first | (simp [chkE] at h; done) | skip
    have h' := h
    simp only [chkE, Bool.and_eq_true, decide_eq_true_eq] at h
    obtain ⟨rfl, h2⟩ := h
    cases hd : constD c with
    | none => rw [hd] at h2; cases h2
    | some d => exact mkE_ok (ie := .cst c) (f := unfz (fCst d)) G h' rfl (by rw [ev, hd]) (unfz_ok (cst_ok hd))
  | .glob x, sc, e, X, W, h, G => by
    cases e <;> first | (simp [chkE] at h; done) | skip
    have h' := h
    simp only [chkE, Bool.and_eq_true, decide_eq_true_eq] at h
    obtain ⟨rfl, h2⟩ := h
    obtain ⟨g1, g2⟩ := G.gl h2
    cases hd : P.con x with
    | none => exact mkE_ok (ie := .glob x) (f := mFail) G h' rfl (by rw [ev, hd]) PE.fail
    | some d => exact mkE_ok (ie := .glob x) (f := unfz (fCst d)) G h' rfl (by rw [ev, hd]) (unfz_ok (glob_ok g1 (G.con x d hd) g2))
  | .tup es, sc, e, X, W, h, G => by
    cases e <;> first | (simp [chkE] at h; done) | skip
    have h' := h
    simp only [chkE] at h
    exact mkE_ok (ie := .tup es) G h' rfl (by rw [ev]) (tup_ok (sndL es sc _ X W h G).v)
  | .lst es, sc, e, X, W, h, G => by
    cases e <;> first | (simp [chkE] at h; done) | skip
    have h' := h
    simp only [chkE] at h
    exact mkE_ok (ie := .lst es) G h' rfl (by rw [ev]) (lst_ok (sndL es sc _ X W h G).v)
  | .bin o a b, sc, e, X, W, h, G => by
    cases e <;> first | (simp [chkE] at h; done) | skip
    have h' := h
    simp only [chkE, Bool.and_eq_true, decide_eq_true_eq] at h
    obtain ⟨⟨rfl, h1⟩, h2⟩ := h
    exact mkE_ok (ie := .bin o a b) G h' rfl (by rw [ev]) (binop_ok (oE_ok G h1 (sndE a sc _ X W h1 G).1) (oE_ok G h2 (sndE b sc _ X W h2 G).1))
  | .neg a, sc, e, X, W, h, G => by
    cases e with
    | UnaryOp op x pos =>
      cases op <;> first | (simp [chkE] at h; done) | skip
      have h' := h
      simp only [chkE] at h
      exact mkE_ok (ie := .neg a) (f := fUn negD (oE a (ev P a).e)) G h' rfl (by rw [ev]) (unop_ok (op := .USub) (oE_ok G h (sndE a sc _ X W h G).1))
    | _ => simp [chkE] at h
  | .cmp o a b, sc, e, X, W, h, G => by
    cases e with
    | Compare l ops cs pos =>
      match ops, cs, h with
      | [o'], [r], h =>
        have h' := h
        simp only [chkE, Bool.and_eq_true, decide_eq_true_eq] at h
        obtain ⟨⟨rfl, h1⟩, h2⟩ := h
        have p1 := oE_ok G h1 (sndE a sc _ X W h1 G).1
        have p2 := oE_ok G h2 (sndE b sc _ X W h2 G).1
        have hm := chk_behind h2 o
        unfold SndE
        rw [ev]
        exact ⟨cmp_ok G.un p1 p2 hm, tcmp_ok G.un p1 p2 hm⟩
      | [], _, h => simp [chkE] at h
      | [_], [], h => simp [chkE] at h
      | [_], _ :: _ :: _, h => simp [chkE] at h
      | _ :: _ :: _, _, h => simp [chkE] at h
    | _ => simp [chkE] at h
  | .chain o p a b c, sc, e, X, W, h, G => by
    cases e with
    | Compare l ops cs pos =>
      match ops, cs, h with
      | [o', p'], [r, q], h =>
        have h' := h
        simp only [chkE, Bool.and_eq_true, decide_eq_true_eq] at h
        obtain ⟨⟨⟨⟨rfl, rfl⟩, h1⟩, h2⟩, h3⟩ := h
        have p1 := oE_ok G h1 (sndE a sc _ X W h1 G).1
        have p2 := oE_ok G h2 (sndE b sc _ X W h2 G).1
        have p3 := oE_ok G h3 (sndE c sc _ X W h3 G).1
        have hm := chk_behind h3 p
        unfold SndE
        rw [ev]
        exact ⟨chain_ok G.un p1 p2 p3 hm, tchain_ok G.un p1 p2 p3 hm⟩
      | [], _, h => simp [chkE] at h
      | [_], _, h => simp [chkE] at h
      | [_, _], [], h => simp [chkE] at h
      | [_, _], [_], h => simp [chkE] at h
      | [_, _], _ :: _ :: _ :: _, h => simp [chkE] at h
      | _ :: _ :: _ :: _, _, h => simp [chkE] at h
    | _ => simp [chkE] at h
  | .not a, sc, e, X, W, h, G => by
    cases e with
    | UnaryOp op x pos =>
      cases op <;> first | (simp [chkE] at h; done) | skip
      simp only [chkE] at h
      have s := sndE a sc _ X W h G
      unfold SndE
      rw [ev]
      exact ⟨unfz_ok (vnot_ok (fz_ok s.1)), not_ok s.2⟩
    | _ => simp [chkE] at h
  | .and es, sc, e, X, W, h, G => by
    cases e with
    | BoolOp op xs pos =>
      cases op <;> first | (simp [chkE] at h; done) | skip
      simp only [chkE, Bool.and_eq_true] at h
      obtain ⟨b1, b2, b3, b4⟩ := (sndL es sc _ X W h.2 G).bl (not_nil h.1) pos
      unfold SndE
      rw [ev]
      exact ⟨unfz_ok b1, b3.pt⟩
    | _ => simp [chkE] at h
  | .or es, sc, e, X, W, h, G => by
    cases e with
    | BoolOp op xs pos =>
      cases op <;> first | (simp [chkE] at h; done) | skip
      simp only [chkE, Bool.and_eq_true] at h
      obtain ⟨b1, b2, b3, b4⟩ := (sndL es sc _ X W h.2 G).bl (not_nil h.1) pos
      unfold SndE
      rw [ev]
      exact ⟨unfz_ok b2, b4.pt⟩
    | _ => simp [chkE] at h
  | .ife t a b, sc, e, X, W, h, G => by
    cases e <;> first | (simp [chkE] at h; done) | skip
    simp only [chkE, Bool.and_eq_true] at h
    obtain ⟨⟨h1, h2⟩, h3⟩ := h
    unfold SndE
    rw [ev]
    exact ⟨if_ok (sndE t sc _ X W h1 G).2 (sndE a sc _ X W h2 G).1 (sndE b sc _ X W h3 G).1, ifT_ok (sndE t sc _ X W h1 G).2 (sndE a sc _ X W h2 G).2 (sndE b sc _ X W h3 G).2⟩
  | .ix a b, sc, e, X, W, h, G => by
    cases e with
    | Subscript v s pos =>
      have h' := h
      have h2 : chkE N sc a v = true ∧ chkE N sc b s = true := by
        cases s <;> simpa [chkE] using h
      exact mkE_ok (ie := .ix a b) G h' rfl (by rw [ev]) (ix_ok G.un (oE_ok G h2.1 (sndE a sc _ X W h2.1 G).1) (oE_ok G h2.2 (sndE b sc _ X W h2.2 G).1) (chk_plain h2.2))
    | _ => simp [chkE] at h
  | .sl a lo hi, sc, e, X, W, h, G => by
    cases e with
    | Subscript v s pos =>
      cases s with
      | Slice l u st p2 =>
        cases st with
        | none =>
          have h' := h
          simp only [chkE, Bool.and_eq_true] at h
          obtain ⟨⟨h1, h2⟩, h3⟩ := h
          exact mkE_ok (ie := .sl a lo hi) G h' rfl (by rw [ev]) (sl_ok (oE_ok G h1 (sndE a sc _ X W h1 G).1) (sndO lo sc _ X W h2 G) (sndO hi sc _ X W h3 G))
        | some _ => simp [chkE] at h
      | _ => simp [chkE] at h
    | _ => simp [chkE] at h
  | .call f es, sc, e, X, W, h, G => by
    cases e with
    | Call fn xs kws pos =>
      cases kws with
      | cons _ _ => simp [chkE] at h
      | nil =>
        cases fn with
        | Name x p =>
          have h' := h
          simp only [chkE, Bool.and_eq_true, decide_eq_true_eq] at h
          obtain ⟨⟨rfl, h1⟩, h2⟩ := h
          obtain ⟨g1, g2⟩ := G.gl h1
          cases hd : P.call f with
          | none => exact mkE_ok (ie := .call f es) (f := mFail) G h' rfl (by rw [ev, hd]) PE.fail
          | some q =>
            obtain ⟨np, cf⟩ := q
            refine mkE_ok (ie := .call f es) (f := fCall np cf (evL P es).a) G h' rfl (by rw [ev, hd]) ?_
            have F := G.call f np cf hd
            have s := (sndL es sc _ X W h2 G).a
            cases xs with
            | nil =>
              cases es with
              | cons _ _ => simp [chkL] at h2
              | nil =>
                have e0 : (evL P .nil).a = aNil := by rw [evL]
                rw [e0]
                exact call0_ok F G.room G.tk g1 g2
            | cons x r =>
              cases es with
              | nil => simp [chkL] at h2
              | cons a b =>
                have h3 := h2
                simp only [chkL, Bool.and_eq_true] at h3
                exact call_ok F G.room G.tk g1 g2 s (chk_star h3.1 r X.env) (chkL_star h3.2 pos X.env)
        | _ => simp [chkE] at h
    | _ => simp [chkE] at h
  | .callk f es, sc, e, X, W, h, G => by
    cases e with
    | Call fn xs kws pos =>
      cases kws with
      | cons _ _ => simp [chkE] at h
      | nil =>
        cases fn with
        | Name x p =>
          have h' := h
          simp only [chkE, Bool.and_eq_true, decide_eq_true_eq] at h
          obtain ⟨⟨⟨rfl, h1⟩, h0⟩, h2⟩ := h
          obtain ⟨g1, g2⟩ := G.gl h1
          cases hd : P.call f with
          | none => exact mkE_ok (ie := .callk f es) (f := mFail) G h' rfl (by rw [ev, hd]) PE.fail
          | some q =>
            obtain ⟨np, cf⟩ := q
            refine mkE_ok (ie := .callk f es) (f := fCallK np cf (evL P es).a) G h' rfl (by rw [ev, hd]) ?_
            have F := G.call f np cf hd
            have s := (sndL es sc _ X W h2 G).a
            cases xs with
            | nil =>
              cases es with
              | cons _ _ => simp [chkL] at h2
              | nil =>
                simp [IL.isNil] at h0
            | cons x r =>
              cases es with
              | nil => simp [chkL] at h2
              | cons a b =>
                have h3 := h2
                simp only [chkL, Bool.and_eq_true] at h3
                exact callK_ok F G.room G.tk g1 g2 s (chk_star h3.1 r X.env) (chkL_star h3.2 pos X.env)
        | _ => simp [chkE] at h
    | _ => simp [chkE] at h
  | .callf f es, sc, e, X, W, h, G => by
    cases e with
    | Call fn xs kws pos =>
      cases kws with
      | cons _ _ => simp [chkE] at h
      | nil =>
        cases fn with
        | Name x p =>
          have h' := h
          simp only [chkE, Bool.and_eq_true, decide_eq_true_eq] at h
          obtain ⟨⟨⟨rfl, h1⟩, h0⟩, h2⟩ := h
          obtain ⟨g1, g2⟩ := G.gl h1
          cases hd : P.callF f with
          | none => exact mkE_ok (ie := .callf f es) (f := mFail) G h' rfl (by rw [ev, hd]) PE.fail
          | some q =>
            obtain ⟨np, cf⟩ := q
            refine mkE_ok (ie := .callf f es) (f := fCallF np cf (evL P es).a) G h' rfl (by rw [ev, hd]) ?_
            have F := G.callF f np cf hd
            have s := (sndL es sc _ X W h2 G).a
            cases xs with
            | nil =>
              cases es with
              | cons _ _ => simp [chkL] at h2
              | nil =>
                simp [IL.isNil] at h0
            | cons x r =>
              cases es with
              | nil => simp [chkL] at h2
              | cons a b =>
                have h3 := h2
                simp only [chkL, Bool.and_eq_true] at h3
                exact callF_ok F G.room G.tk g1 g2 s (chk_star h3.1 r X.env) (chkL_star h3.2 pos X.env)
        | _ => simp [chkE] at h
    | _ => simp [chkE] at h
  | .blt b es, sc, e, X, W, h, G => by
    cases e with
    | Call fn xs kws pos =>
      cases kws with
      | cons _ _ => simp [chkE] at h
      | nil =>
        cases fn with
        | Name x p =>
          have h' := h
          simp only [chkE, Bool.and_eq_true, decide_eq_true_eq] at h
          obtain ⟨⟨⟨rfl, h1⟩, h0⟩, h2⟩ := h
          obtain ⟨g1, g2⟩ := G.gl h1
          have s := (sndL es sc _ X W h2 G).a
          obtain ⟨y, r, a, c, rfl, rfl, k1, k2⟩ := cons_of (not_nil h0) h2
          exact mkE_ok (ie := .blt b (.cons a c)) G h' rfl (by rw [ev]) (blt_ok G.calm G.un g1 (free_of G b) s (chk_star k1 r X.env) (chkL_star k2 pos X.env))
        | _ => simp [chkE] at h
    | _ => simp [chkE] at h
  | .isi T a, sc, e, X, W, h, G => by
    cases e with
    | Call fn xs kws pos =>
      cases kws with
      | cons _ _ => simp [chkE] at h
      | nil =>
        cases fn with
        | Name x p =>
          have hx : ∃ y t p2, xs = [y, .Name t p2] := by
            match xs, h with
            | [y, .Name t p2], h => exact ⟨y, t, p2, rfl⟩
            | [], h => simp [chkE] at h
            | [_], h => simp [chkE] at h
            | _ :: _ :: _ :: _, h => simp [chkE] at h
            | [y, z], h => cases z <;> first | (simp [chkE] at h; done) | exact ⟨y, _, _, rfl⟩
          obtain ⟨y, t, p2, rfl⟩ := hx
          have h' := h
          simp only [chkE, Bool.and_eq_true, decide_eq_true_eq] at h
          obtain ⟨⟨⟨⟨rfl, rfl⟩, h1⟩, h2⟩, h3⟩ := h
          exact mkE_ok (ie := .isi T a) G h' rfl (by rw [ev]) (isi_ok (G.gl h1).1 (G.free _ (by decide)) (G.gl h2).1 (G.free _ (by cases T <;> decide)) (oE_ok G h3 (sndE a sc _ X W h3 G).1) (chk_star h3 _ X.env))
        | _ => simp [chkE] at h
    | _ => simp [chkE] at h
  | .pop i, sc, e, X, W, h, G => by
    cases e with
    | Call fn xs kws pos =>
      cases kws with
      | cons _ _ => simp [chkE] at h
      | nil =>
        cases fn with
        | Attribute o m ap =>
          cases o with
          | Name x p =>
            cases xs with
            | cons _ _ => simp [chkE] at h
            | nil =>
              have h' := h
              simp only [chkE, Bool.and_eq_true, decide_eq_true_eq] at h
              obtain ⟨⟨rfl, h1⟩, h2⟩ := h
              obtain ⟨k1, k2, k3, k4⟩ := G.vis h1
              exact mkE_ok (ie := .pop i) G h' rfl (by rw [ev]) (unfz_ok (pop_ok k1 k2 k3 k4 (beq_iff_eq.mpr h2)))
          | _ => simp [chkE] at h
        | _ => simp [chkE] at h
    | _ => simp [chkE] at h
  | .popAt i a, sc, e, X, W, h, G => by
    cases e with
    | Call fn xs kws pos =>
      cases kws with
      | cons _ _ => simp [chkE] at h
      | nil =>
        cases fn with
        | Attribute o m ap =>
          cases o with
          | Name x p =>
            match xs, h with
            | [y], h =>
              have h' := h
              simp only [chkE, Bool.and_eq_true, decide_eq_true_eq] at h
              obtain ⟨⟨⟨rfl, h1⟩, h2⟩, h3⟩ := h
              obtain ⟨k1, k2, k3, k4⟩ := G.vis h1
              exact mkE_ok (ie := .popAt i a) G h' rfl (by rw [ev]) (unfz_ok (popAt_ok k1 k2 k3 k4 (fz_ok (sndE a sc _ X W h3 G).1) (chk_star h3 _ X.env) (beq_iff_eq.mpr h2)))
            | [], h => simp [chkE] at h
            | _ :: _ :: _, h => simp [chkE] at h
          | _ => simp [chkE] at h
        | _ => simp [chkE] at h
    | _ => simp [chkE] at h
  | .app i a, sc, e, X, W, h, G => by
    cases e with
    | Call fn xs kws pos =>
      cases kws with
      | cons _ _ => simp [chkE] at h
      | nil =>
        cases fn with
        | Attribute o m ap =>
          cases o with
          | Name x p =>
            match xs, h with
            | [y], h =>
              have h' := h
              simp only [chkE, Bool.and_eq_true, decide_eq_true_eq] at h
              obtain ⟨⟨⟨rfl, h1⟩, h2⟩, h3⟩ := h
              obtain ⟨k1, k2, k3, k4⟩ := G.vis h1
              exact mkE_ok (ie := .app i a) G h' rfl (by rw [ev]) (unfz_ok (app_ok k1 k2 k3 k4 (fz_ok (sndE a sc _ X W h3 G).1) (chk_star h3 _ X.env) (beq_iff_eq.mpr h2)))
            | [], h => simp [chkE] at h
            | _ :: _ :: _, h => simp [chkE] at h
          | _ => simp [chkE] at h
        | _ => simp [chkE] at h
    | _ => simp [chkE] at h
  | .sset a, sc, e, X, W, h, G => by
    have hx : ∃ x p y p2 z q1 q2, e = .Call (.Name x p) [.Call (.Name y p2) [z] [] q1] [] q2 := by
      cases e with
      | Call fn xs kws pos =>
        cases kws with
        | cons _ _ => simp [chkE] at h
        | nil =>
          cases fn with
          | Name x p =>
            match xs, h with
            | [], h => simp [chkE] at h
            | _ :: _ :: _, h => simp [chkE] at h
            | [w], h =>
              cases w with
              | Call fn2 xs2 kws2 pos2 =>
                cases kws2 with
                | cons _ _ => simp [chkE] at h
                | nil =>
                  cases fn2 with
                  | Name y p2 =>
                    match xs2, h with
                    | [], h => simp [chkE] at h
                    | _ :: _ :: _, h => simp [chkE] at h
                    | [z], h => exact ⟨_, _, _, _, _, _, _, rfl⟩
                  | _ => simp [chkE] at h
              | _ => simp [chkE] at h
          | _ => simp [chkE] at h
      | _ => simp [chkE] at h
    obtain ⟨x, p, y, p2, z, q1, q2, rfl⟩ := hx
    have h' := h
    simp only [chkE, Bool.and_eq_true, decide_eq_true_eq] at h
    obtain ⟨⟨⟨⟨rfl, rfl⟩, h1⟩, h2⟩, h3⟩ := h
    exact mkE_ok (ie := .sset a) G h' rfl (by rw [ev]) (sset_okE G.calm G.un (G.gl h1).1 (G.free _ (by decide)) (G.gl h2).1 (G.free _ (by decide)) (acons_ok (oE_ok G h3 (sndE a sc z X W h3 G).1) anil_ok (chk_star h3 [] X.env)) (chk_star h3 [] X.env))
  | .sortE a, sc, e, X, W, h, G => by
    have hx : ∃ x p z q, e = .Call (.Name x p) [z] [] q := by
      cases e with
      | Call fn xs kws pos =>
        cases kws with
        | cons _ _ => simp [chkE] at h
        | nil =>
          cases fn with
          | Name x p =>
            match xs, h with
            | [], h => simp [chkE] at h
            | _ :: _ :: _, h => simp [chkE] at h
            | [z], h => exact ⟨_, _, _, _, rfl⟩
          | _ => simp [chkE] at h
      | _ => simp [chkE] at h
    obtain ⟨x, p, z, q, rfl⟩ := hx
    have h' := h
    simp only [chkE, Bool.and_eq_true, decide_eq_true_eq] at h
    obtain ⟨⟨rfl, h1⟩, h3⟩ := h
    exact mkE_ok (ie := .sortE a) G h' rfl (by rw [ev]) (sortE_ok G.calm G.un (G.gl h1).1 (G.free _ (by decide)) (acons_ok (oE_ok G h3 (sndE a sc z X W h3 G).1) anil_ok (chk_star h3 [] X.env)) (chk_star h3 [] X.env))
  | .kget x a k, sc, e, X, W, h, G => by
    cases e with
    | Call fn xs kws pos =>
      cases kws with
      | cons _ _ => simp [chkE] at h
      | nil =>
        cases fn with
        | Attribute o m ap =>
          cases o with
          | Name y p =>
            match xs, h with
            | [], h => simp [chkE] at h
            | [_], h => simp [chkE] at h
            | _ :: _ :: _ :: _, h => simp [chkE] at h
            | [z, c], h =>
              cases c with
              | Constant cc kk p2 =>
                cases cc with
                | int k' =>
                  have h' := h
                  simp only [chkE, Bool.and_eq_true, decide_eq_true_eq] at h
                  obtain ⟨⟨⟨⟨⟨rfl, rfl⟩, h1⟩, h2⟩, rfl⟩, h3⟩ := h
                  cases hd : P.dic x with
                  | none => exact mkE_ok (ie := .kget x a k') G h' rfl (by rw [ev, hd]) PE.fail
                  | some kvs => exact mkE_ok (ie := .kget x a k') G h' rfl (by rw [ev, hd]) (unfz_ok (kget_ok (G.gl h1).1 (G.gl h1).2 (G.dic _ _ hd) (fz_ok (sndE a sc _ X W h3 G).1) (by rw [chk_star h3]; rfl) (beq_iff_eq.mpr h2)))
                | _ => simp [chkE] at h
              | _ => simp [chkE] at h
          | _ => simp [chkE] at h
        | _ => simp [chkE] at h
    | _ => simp [chkE] at h
  | .ext i a, sc, e, X, W, h, G => by
    cases e with
    | Call fn xs kws pos =>
      cases kws with
      | cons _ _ => simp [chkE] at h
      | nil =>
        cases fn with
        | Attribute o m ap =>
          cases o with
          | Name x p =>
            match xs, h with
            | [y], h =>
              have h' := h
              simp only [chkE, Bool.and_eq_true, decide_eq_true_eq] at h
              obtain ⟨⟨⟨rfl, h1⟩, h2⟩, h3⟩ := h
              obtain ⟨k1, k2, k3, k4⟩ := G.vis h1
              exact mkE_ok (ie := .ext i a) G h' rfl (by rw [ev]) (unfz_ok (ext_ok k1 k2 k3 k4 (oE_ok G h3 (sndE a sc _ X W h3 G).1) (chk_star h3 _ X.env) (beq_iff_eq.mpr h2)))
            | [], h => simp [chkE] at h
            | _ :: _ :: _, h => simp [chkE] at h
          | _ => simp [chkE] at h
        | _ => simp [chkE] at h
    | _ => simp [chkE] at h
  | .comp own tg it ifs elt, sc, e, X, W, h, G => by
    cases e with
    | ListComp elt' gs scope pos =>
      match gs, h with
      | [⟨tgE, iter, ifs', ay⟩], h =>
        have h' := h
        simp only [chkE, Bool.and_eq_true, decide_eq_true_eq] at h
        obtain ⟨⟨⟨⟨⟨⟨rfl, h1⟩, h2⟩, h3⟩, h4⟩, h5⟩, h6⟩ := h
        have ok : BlkOk X.N X.env.scope scope own := by rw [G.hN, G.hsc]; exact blkOk_by h1
        refine mkE_ok (ie := .comp own tg it ifs elt) (f := fComp (evI P it) (tgF tg) (evL P ifs).one (fz (ev P elt).e) (own.map (·.2))) G h' rfl (by rw [ev]) (comp_ok (sl := tgS tg) G.calm G.ndX (sndI it sc tgE iter X W h4 G) ok (fun s H C cl fp => sndT (X := blkX X scope s H C cl fp) G.ndX G.calm (StOk.blk G s H C cl fp) tg tgE h3) (fun s hs => ?_) (fun s H C cl fp => (sndL ifs _ _ _ _ h5 (G.blk h1 s H C cl fp)).one) (fun s H C cl fp => fz_ok (sndE elt _ _ _ _ h6 (G.blk h1 s H C cl fp)).1) (chkI_fold h4 X.env))
        have := List.all_eq_true.mp h2 s hs
        simpa using this
      | [], h => simp [chkE] at h
      | _ :: _ :: _, h => simp [chkE] at h
    | _ => simp [chkE] at h
  | .comp2 own tg it vs1 tg1 it1 ifs elt, sc, e, X, W, h, G => by
    cases e with
    | ListComp elt' gs scope pos =>
      match gs, h with
      | [⟨tgE, iter, [], ay⟩, ⟨tgE1, iter1, ifs', ay1⟩], h =>
        have h' := h
        simp only [chkE, Bool.and_eq_true, decide_eq_true_eq] at h
        obtain ⟨⟨⟨⟨⟨⟨⟨⟨⟨⟨⟨rfl, rfl⟩, h1⟩, h2⟩, h2v⟩, h2t⟩, h3⟩, h4⟩, h3b⟩, h4b⟩, h5⟩, h6⟩ := h
        have ok : BlkOk X.N X.env.scope scope own := by rw [G.hN, G.hsc]; exact blkOk_by h1
        refine mkE_ok (ie := .comp2 own tg it vs1 tg1 it1 ifs elt) (f := fComp2 (evI P it) (tgF tg) (evI P it1) (tgF tg1) (evL P ifs).one (fz (ev P elt).e) (own.map (·.2)) vs1) G h' rfl (by rw [ev]) (comp2_ok (sl := tgS tg) (sl1 := tgS tg1) G.calm G.ndX (sndI it sc tgE iter X W h4 G) ok (fun s hs => ?_) (fun s H C cl fp => sndT (X := blkX X scope s H C cl fp) G.ndX G.calm (StOk.blk G s H C cl fp) tg tgE h3) (fun s hs => ?_)
          (fun s H C cl fp => sndI it1 _ tgE1 iter1 _ _ h4b (G.blk h1 s H C cl fp)) (fun s H C cl fp => sndT (X := blkX X scope s H C cl fp) G.ndX G.calm (StOk.blk G s H C cl fp) tg1 tgE1 h3b) (fun s hs => ?_) (fun s H C cl fp => (sndL ifs _ _ _ _ h5 (G.blk h1 s H C cl fp)).one) (fun s H C cl fp => fz_ok (sndE elt _ _ _ _ h6 (G.blk h1 s H C cl fp)).1) (chkI_fold h4 X.env) (fun env => chkI_fold h4b env))
        · have := List.all_eq_true.mp h2v s hs
          simpa using this
        · have := List.all_eq_true.mp h2 s hs
          simpa using this
        · have := List.all_eq_true.mp h2t s hs
          simpa using this
      | [], h => simp [chkE] at h
      | [_], h => simp [chkE] at h
      | _ :: _ :: _ :: _, h => simp [chkE] at h
      | [⟨_, _, _ :: _, _⟩, _], h => simp [chkE] at h
    | _ => simp [chkE] at h
  | .dcomp own tg it k v, sc, e, X, W, h, G => by
    cases e with
    | DictComp k' v' gs scope pos =>
      match gs, h with
      | [⟨tgE, iter, [], ay⟩], h =>
        have h' := h
        simp only [chkE, Bool.and_eq_true, decide_eq_true_eq] at h
        obtain ⟨⟨⟨⟨⟨⟨rfl, h1⟩, h2⟩, h3⟩, h4⟩, h5⟩, h6⟩ := h
        have ok : BlkOk X.N X.env.scope scope own := by rw [G.hN, G.hsc]; exact blkOk_by h1
        refine mkE_ok (ie := .dcomp own tg it k v) (f := fDcomp (evI P it) (tgF tg) (fz (ev P k).e) (fz (ev P v).e) (own.map (·.2))) G h' rfl (by rw [ev]) (dcomp_ok (sl := tgS tg) G.un G.calm G.ndX (sndI it sc tgE iter X W h4 G) ok (fun s H C cl fp => sndT (X := blkX X scope s H C cl fp) G.ndX G.calm (StOk.blk G s H C cl fp) tg tgE h3) (fun s hs => ?_)
          (fun s H C cl fp => fz_ok (sndE k _ _ _ _ h5 (G.blk h1 s H C cl fp)).1) (fun s H C cl fp => fz_ok (sndE v _ _ _ _ h6 (G.blk h1 s H C cl fp)).1) (chkI_fold h4 X.env))
        have := List.all_eq_true.mp h2 s hs
        simpa using this
      | [], h => simp [chkE] at h
      | _ :: _ :: _, h => simp [chkE] at h
      | [⟨_, _, _ :: _, _⟩], h => simp [chkE] at h
    | _ => simp [chkE] at h
  | .dnew, sc, e, X, W, h, G => by
    have hx : ∃ pos, e = .Dict [] [] pos := by
      cases e with
      | Dict ks vs pos =>
        cases ks with
        | cons _ _ => simp [chkE] at h
        | nil => cases vs with
          | cons _ _ => simp [chkE] at h
          | nil => exact ⟨pos, rfl⟩
      | _ => simp [chkE] at h
    obtain ⟨pos, rfl⟩ := hx
    exact mkE_ok (ie := .dnew) G h rfl (by rw [ev]) dnew_ok
  | .disp k v, sc, e, X, W, h, G => by
    have hx : ∃ k' v' pos, e = .Dict [some k'] [v'] pos := by
      cases e with
      | Dict ks vs pos =>
        match ks, vs, h with
        | [some k'], [v'], h => exact ⟨k', v', pos, rfl⟩
        | [], _, h => simp [chkE] at h
        | [none], _, h => simp [chkE] at h
        | _ :: _ :: _, _, h => simp [chkE] at h
        | [some _], [], h => simp [chkE] at h
        | [some _], _ :: _ :: _, h => simp [chkE] at h
      | _ => simp [chkE] at h
    obtain ⟨k', v', pos, rfl⟩ := hx
    have h' := h
    simp only [chkE, Bool.and_eq_true] at h
    exact mkE_ok (ie := .disp k v) G h' rfl (by rw [ev]) (disp1_ok G.un (fz_ok (sndE k sc _ X W h.1 G).1) (fz_ok (sndE v sc _ X W h.2 G).1))
  | .tidx o k, sc, e, X, W, h, G => by
    cases e with
    | Call fn xs kws pos =>
      cases kws with
      | cons _ _ => simp [chkE] at h
      | nil =>
        cases fn with
        | Attribute oe m ap =>
          cases oe with
          | Name x p =>
            match xs, h with
            | [], h => simp [chkE] at h
            | _ :: _ :: _, h => simp [chkE] at h
            | [e], h =>
              cases o with
              | var i =>
                have h' := h
                simp only [chkE, Bool.and_eq_true, decide_eq_true_eq] at h
                obtain ⟨⟨⟨⟨rfl, h1⟩, h2⟩, _⟩, h4⟩ := h
                have c0 : chkE N sc (.var i) (.Name x p) = true := by simpa [chkE] using h1
                have t1 : starEach [e] X.env = [(false, eval e X.env)] := by
                  rw [chk_star h4]; rfl
                refine mkE_ok (ie := .tidx (.var i) k) G h' rfl (by conv => lhs; rw [ev]) (unfz_ok (tidx_ok (oE_ok G c0 (sndE (.var i) sc _ X W c0 G).1) (fz_ok (sndE k sc _ X W h4 G).1) ⟨rfl, ?_, beq_iff_eq.mpr h2, ?_⟩))
                · rw [t1]; rfl
                · rw [t1]; rfl
              | _ => simp [chkE] at h
          | _ => simp [chkE] at h
        | _ => simp [chkE] at h
    | _ => simp [chkE] at h
  | .rg1 t a, sc, e, X, W, h, G => by
    have hx : ∃ x p y p2 z q1 q2, e = .Call (.Name x p) [.Call (.Name y p2) [z] [] q1] [] q2 := by
      cases e with
      | Call fn xs kws pos =>
        cases kws with
        | cons _ _ => simp [chkE] at h
        | nil =>
          cases fn with
          | Name x p =>
            match xs, h with
            | [], h => simp [chkE] at h
            | _ :: _ :: _, h => simp [chkE] at h
            | [w], h =>
              cases w with
              | Call fn2 xs2 kws2 pos2 =>
                cases kws2 with
                | cons _ _ => simp [chkE] at h
                | nil =>
                  cases fn2 with
                  | Name y p2 =>
                    match xs2, h with
                    | [], h => simp [chkE] at h
                    | _ :: _ :: _, h => simp [chkE] at h
                    | [z], h => exact ⟨_, _, _, _, _, _, _, rfl⟩
                  | _ => simp [chkE] at h
              | _ => simp [chkE] at h
          | _ => simp [chkE] at h
      | _ => simp [chkE] at h
    obtain ⟨x, p, y, p2, z, q1, q2, rfl⟩ := hx
    have h' := h
    simp only [chkE, Bool.and_eq_true, decide_eq_true_eq] at h
    obtain ⟨⟨⟨⟨rfl, rfl⟩, h1⟩, h2⟩, h3⟩ := h
    exact mkE_ok (ie := .rg1 t a) G h' rfl (by rw [ev]) (rg1_ok G.calm (G.gl h1).1 (G.free _ (by cases t <;> decide)) (G.gl h2).1 (G.free _ (by decide)) (oE_ok G h3 (sndE a sc z X W h3 G).1) (chk_star h3 [] X.env))
  | .rg2 t a b, sc, e, X, W, h, G => by
    have hx : ∃ x p y p2 z w q1 q2, e = .Call (.Name x p) [.Call (.Name y p2) [z, w] [] q1] [] q2 := by
      cases e with
      | Call fn xs kws pos =>
        cases kws with
        | cons _ _ => simp [chkE] at h
        | nil =>
          cases fn with
          | Name x p =>
            match xs, h with
            | [], h => simp [chkE] at h
            | _ :: _ :: _, h => simp [chkE] at h
            | [w], h =>
              cases w with
              | Call fn2 xs2 kws2 pos2 =>
                cases kws2 with
                | cons _ _ => simp [chkE] at h
                | nil =>
                  cases fn2 with
                  | Name y p2 =>
                    match xs2, h with
                    | [], h => simp [chkE] at h
                    | [_], h => simp [chkE] at h
                    | _ :: _ :: _ :: _, h => simp [chkE] at h
                    | [z, w], h => exact ⟨_, _, _, _, _, _, _, _, rfl⟩
                  | _ => simp [chkE] at h
              | _ => simp [chkE] at h
          | _ => simp [chkE] at h
      | _ => simp [chkE] at h
    obtain ⟨x, p, y, p2, z, w, q1, q2, rfl⟩ := hx
    have h' := h
    simp only [chkE, Bool.and_eq_true, decide_eq_true_eq] at h
    obtain ⟨⟨⟨⟨⟨rfl, rfl⟩, h1⟩, h2⟩, h3⟩, h4⟩ := h
    have hs' := chk_star h4 [] X.env
    exact mkE_ok (ie := .rg2 t a b) G h' rfl (by rw [ev]) (rg2_ok G.calm (G.gl h1).1 (G.free _ (by cases t <;> decide)) (G.gl h2).1 (G.free _ (by decide)) (oE_ok G h3 (sndE a sc z X W h3 G).1) (oE_ok G h4 (sndE b sc w X W h4 G).1) (chk_star h3 [w] X.env) hs' (by rw [hs']; rfl))
  | .lzip a b, sc, e, X, W, h, G => by
    have hx : ∃ x p y p2 z w q1 q2, e = .Call (.Name x p) [.Call (.Name y p2) [z, w] [] q1] [] q2 := by
      unfold chkE at h
      split at h <;> first | exact ⟨_, _, _, _, _, _, _, _, rfl⟩ | contradiction
    obtain ⟨x, p, y, p2, z, w, q1, q2, rfl⟩ := hx
    have h' := h
    simp only [chkE, Bool.and_eq_true, decide_eq_true_eq] at h
    obtain ⟨⟨⟨⟨⟨rfl, rfl⟩, h1⟩, h2⟩, h3⟩, h4⟩ := h
    have hs' := chk_star h4 [] X.env
    exact mkE_ok (ie := .lzip a b) G h' rfl (by rw [ev]) (lzip_ok G.calm (fz_ok (sndE a sc z X W h3 G).1) (fz_ok (sndE b sc w X W h4 G).1) (G.gl h1).1 (G.free _ (by decide)) rfl (G.gl h2).1 (G.free _ (by decide)) hs' (chk_star h3 [w] X.env) (by rw [hs']; rfl) rfl)
  | .compI own tg i ifs elt, sc, e, X, W, h, G => by
    have hx : ∃ elt' tgE iter ifs' ay scope pos, e = .ListComp elt' [⟨tgE, iter, ifs', ay⟩] scope pos := by
      unfold chkE at h
      split at h <;> first | exact ⟨_, _, _, _, _, _, _, rfl⟩ | contradiction
    obtain ⟨elt', tgE, iter, ifs', ay, scope, pos, rfl⟩ := hx
    have h' := h
    simp only [chkE] at h
    split at h
    · rename_i x hi
      simp only [Bool.and_eq_true, decide_eq_true_eq] at h
      obtain ⟨⟨⟨⟨⟨⟨⟨rfl, h0⟩, hv⟩, h1⟩, h2⟩, h3⟩, h5⟩, h6⟩ := h
      obtain ⟨p, ap, cp, rfl, hl⟩ := itemsOf_some hi
      obtain ⟨es, kk, tp, rfl⟩ := isTupE_some h0
      obtain ⟨k1, k2, k3, k4⟩ := G.vis hv
      have ok : BlkOk X.N X.env.scope scope own := by rw [G.hN, G.hsc]; exact blkOk_by h1
      refine mkE_ok (ie := .compI own tg i ifs elt) (f := fCompI i (tgF tg) (evL P ifs).one (fz (ev P elt).e) (own.map (·.2))) G h' rfl (by rw [ev]) (compI_ok (sl := tgS tg) G.calm G.ndX k1 k2 k3 k4 (beq_iff_eq.mpr hl) ok (fun s H C cl fp => sndT (X := blkX X scope s H C cl fp) G.ndX G.calm (StOk.blk G s H C cl fp) tg _ h3) (fun s hs => ?_)
        (fun s H C cl fp => (sndL ifs _ _ _ _ h5 (G.blk h1 s H C cl fp)).one) (fun s H C cl fp => fz_ok (sndE elt _ _ _ _ h6 (G.blk h1 s H C cl fp)).1))
      have := List.all_eq_true.mp h2 s hs
      simpa using this
    · cases h
  | .bitlen i, sc, e, X, W, h, G => by
    have hx : ∃ x p m ap pos, e = .Call (.Attribute (.Name x p) m ap) [] [] pos := by
      unfold chkE at h
      split at h <;> first | exact ⟨_, _, _, _, _, rfl⟩ | contradiction
    obtain ⟨x, p, m, ap, pos, rfl⟩ := hx
    have h' := h
    simp only [chkE, Bool.and_eq_true, decide_eq_true_eq] at h
    obtain ⟨⟨rfl, h1⟩, h2⟩ := h
    obtain ⟨k1, k2, k3, k4⟩ := G.vis h1
    exact mkE_ok (ie := .bitlen i) G h' rfl (by rw [ev]) (unfz_ok (bits_ok (var_ok k1 k2 k3 k4) rfl (beq_iff_eq.mpr h2)))
  | .rvl a, sc, e, X, W, h, G => by
    have hx : ∃ v k p1 p2 p3 pos, e = .Subscript v (.Slice none none (some (.UnaryOp .USub (.Constant (.int 1) k p1) p2)) p3) pos := by
      unfold chkE at h
      split at h <;> first | exact ⟨_, _, _, _, _, _, rfl⟩ | contradiction
    obtain ⟨v, k, p1, p2, p3, pos, rfl⟩ := hx
    have h' := h
    simp only [chkE] at h
    exact mkE_ok (ie := .rvl a) G h' rfl (by rw [ev]) (rvl_ok (oE_ok G h (sndE a sc v X W h G).1))
  | .dget o k d, sc, e, X, W, h, G => by
    cases e with
    | Call fn xs kws pos =>
      cases kws with
      | cons _ _ => simp [chkE] at h
      | nil =>
        cases fn with
        | Attribute oe m ap =>
          cases oe with
          | Name x p =>
            match xs, h with
            | [], h => simp [chkE] at h
            | [_], h => simp [chkE] at h
            | _ :: _ :: _ :: _, h => simp [chkE] at h
            | [e, f], h =>
              cases o with
              | var i =>
                have h' := h
                simp only [chkE, Bool.and_eq_true, decide_eq_true_eq] at h
                obtain ⟨⟨⟨⟨⟨rfl, h1⟩, h2⟩, _⟩, h4⟩, h5⟩ := h
                have c0 : chkE N sc (.var i) (.Name x p) = true := by simpa [chkE] using h1
                have t1 : starEach [e, f] X.env = [(false, eval e X.env), (false, eval f X.env)] := by
                  rw [chk_star h4, chk_star h5]; rfl
                refine mkE_ok (ie := .dget (.var i) k d) G h' rfl (by conv => lhs; rw [ev]) (unfz_ok (dget2_ok G.un (oE_ok G c0 (sndE (.var i) sc _ X W c0 G).1) (fz_ok (sndE k sc _ X W h4 G).1) (fz_ok (sndE d sc _ X W h5 G).1) ⟨rfl, ?_, beq_iff_eq.mpr h2, ?_⟩))
                · rw [t1]; rfl
                · rw [t1]; rfl
              | _ => simp [chkE] at h
          | _ => simp [chkE] at h
        | _ => simp [chkE] at h
    | _ => simp [chkE] at h
  | .stuck, sc, e, X, W, h, G => by
    unfold SndE
    rw [ev]
    exact ⟨PE.fail, PT.fail⟩
theorem sndL : ∀ (il : IL) (sc : Scope) (xs : List Expr) (X : Cx) (W : WX), chkL N sc il xs = true → GX P n N sc X W → SndL P X W il xs
  | .nil, sc, xs, X, W, h, G => by
    cases xs with
    | cons _ _ => simp [chkL] at h
    | nil =>
      refine ⟨?_, ?_, fun h => (by cases h), ?_⟩
      · rw [evL]; exact vnil_ok
      · rw [evL]; exact anil_ok
      · rw [evL]; exact tests0
  | .cons a as, sc, xs, X, W, h, G => by
    cases xs with
    | nil => simp [chkL] at h
    | cons x r =>
      simp only [chkL, Bool.and_eq_true] at h
      have s := sndE a sc x X W h.1 G
      have S := sndL as sc r X W h.2 G
      refine ⟨?_, ?_, fun _ pos => ?_, ?_⟩
      · rw [evL]; exact vcons_ok (fz_ok s.1) S.v (chk_star h.1 r X.env)
      · rw [evL]; exact acons_ok (oE_ok G h.1 s.1) S.a (chk_star h.1 r X.env)
      · rw [evL]
        cases as with
        | nil =>
          cases r with
          | cons _ _ => have := h.2; simp [chkL] at this
          | nil => exact ⟨pe_one (fz_ok s.1), pe_one (fz_ok s.1), pw_and1 s.2, pw_or1 s.2⟩
        | cons b bs =>
          cases r with
          | nil => have := h.2; simp [chkL] at this
          | cons y r =>
            obtain ⟨b1, b2, b3, b4⟩ := S.bl rfl pos
            exact ⟨(pe_and (fz_ok s.1) b1).imp vAnd_of, (pe_or (fz_ok s.1) b2).imp vOr_of, (pw_and s.2 b3).imp mAnd_of, (pw_or s.2 b4).imp mOr_of⟩
      · rw [evL]
        cases as with
        | nil =>
          cases r with
          | cons _ _ => have := h.2; simp [chkL] at this
          | nil => exact tests1 s.2
        | cons b bs => exact PTs.fail
theorem sndO : ∀ (io : IO) (sc : Scope) (eo : Option Expr) (X : Cx) (W : WX), chkO N sc io eo = true → GX P n N sc X W → PO X eo (tP X W (evP P io))
  | .no, sc, eo, X, W, h, G => by
    cases eo with
    | some _ => simp [chkO] at h
    | none => rw [evP]; exact pno_ok
  | .so a, sc, eo, X, W, h, G => by
    cases eo with
    | none => simp [chkO] at h
    | some e =>
      simp only [chkO] at h
      rw [evP]
      exact pso_ok (fz_ok (sndE a sc e X W h G).1)
theorem sndI : ∀ (it : II) (sc : Scope) (tg e : Expr) (X : Cx) (W : WX), chkI N sc it tg e = true → GX P n N sc X W → PI X tg e (tI X W (twE tg) (evI P it))
  | .seq a, sc, tg, e, X, W, h, G => by
    simp only [chkI] at h
    rw [evI]
    exact iseq_ok (fz_ok (sndE a sc e X W h G).1)
  | .rng1 a, sc, tg, e, X, W, h, G => by
    simp only [chkI] at h
    split at h
    · rename_i x y hc
      obtain ⟨p, pos, rfl⟩ := callArgs_some hc
      simp only [Bool.and_eq_true, decide_eq_true_eq] at h
      obtain ⟨⟨rfl, h1⟩, h2⟩ := h
      have s := oE_ok G h2 (sndE a sc y X W h2 G).1
      have hs := chk_star h2 [] X.env
      rw [evI]
      exact irange1_ok (G.gl h1).1 (G.free _ (by decide)) (acons_ok s anil_ok hs) hs
    · cases h
  | .rng2 a b, sc, tg, e, X, W, h, G => by
    simp only [chkI] at h
    split at h
    · rename_i x y z hc
      obtain ⟨p, pos, rfl⟩ := callArgs_some hc
      simp only [Bool.and_eq_true, decide_eq_true_eq] at h
      obtain ⟨⟨⟨rfl, h1⟩, h2⟩, h3⟩ := h
      have s := oE_ok G h2 (sndE a sc y X W h2 G).1
      have s' := oE_ok G h3 (sndE b sc z X W h3 G).1
      have hs := chk_star h2 [z] X.env
      have hs' := chk_star h3 [] X.env
      rw [evI]
      exact irange2_ok (G.gl h1).1 (G.free _ (by decide)) (acons_ok s (acons_ok s' anil_ok hs') hs) (by rw [hs, hs']; rfl) hs'
    · cases h
  | .enum a, sc, tg, e, X, W, h, G => by
    simp only [chkI] at h
    split at h
    · rename_i x y hc
      obtain ⟨p, pos, rfl⟩ := callArgs_some hc
      simp only [Bool.and_eq_true, decide_eq_true_eq] at h
      obtain ⟨⟨⟨h0, rfl⟩, h1⟩, h2⟩ := h
      obtain ⟨elts, k, tp, rfl⟩ := isTupE_some h0
      have hs := chk_star h2 [] X.env
      rw [evI]
      exact ienum_ok (G.gl h1).1 (G.free _ (by decide)) (fz_ok (sndE a sc y X W h2 G).1) hs
    · cases h
  | .zip a b, sc, tg, e, X, W, h, G => by
    simp only [chkI] at h
    split at h
    · rename_i x y z hc
      obtain ⟨p, pos, rfl⟩ := callArgs_some hc
      simp only [Bool.and_eq_true, decide_eq_true_eq] at h
      obtain ⟨⟨⟨⟨h0, rfl⟩, h1⟩, h2⟩, h3⟩ := h
      obtain ⟨elts, k, tp, rfl⟩ := isTupE_some h0
      have hs := chk_star h2 [z] X.env
      have hs' := chk_star h3 [] X.env
      rw [evI]
      exact izip_ok (G.gl h1).1 (G.free _ (by decide)) (fz_ok (sndE a sc y X W h2 G).1) (fz_ok (sndE b sc z X W h3 G).1) hs hs' (by rw [hs']; rfl)
    · cases h
  | .rev a, sc, tg, e, X, W, h, G => by
    simp only [chkI] at h
    split at h
    · rename_i x y hc
      obtain ⟨p, pos, rfl⟩ := callArgs_some hc
      simp only [Bool.and_eq_true, decide_eq_true_eq] at h
      obtain ⟨⟨rfl, h1⟩, h2⟩ := h
      rw [evI]
      exact irev_ok (G.gl h1).1 (G.free _ (by decide)) (fz_ok (sndE a sc y X W h2 G).1) (chk_star h2 [] X.env)
    · cases h
  | .revr a, sc, tg, e, X, W, h, G => by
    simp only [chkI] at h
    split at h
    · rename_i x y hc
      obtain ⟨p, pos, rfl⟩ := callArgs_some hc
      simp only [Bool.and_eq_true, decide_eq_true_eq] at h
      obtain ⟨⟨rfl, h1⟩, h2⟩ := h
      split at h2
      · rename_i x2 z hc2
        obtain ⟨p2, pos2, rfl⟩ := callArgs_some hc2
        simp only [Bool.and_eq_true, decide_eq_true_eq] at h2
        obtain ⟨⟨rfl, h3⟩, h4⟩ := h2
        rw [evI]
        exact irevr_ok (G.gl h1).1 (G.free _ (by decide)) (G.gl h3).1 (G.free _ (by decide)) (fz_ok (sndE a sc z X W h4 G).1) (chk_star h4 [] X.env) rfl
      · cases h2
    · cases h
end
end
end PyI

namespace PyI
open PySem PySem.Spec L2 PyProof.Rows
structure GS (P : Prg) (n : Nat) (N : List PySem.Str) (sc : Scope) (X : Cx) (W : WX) : Prop where
  g : GX P n N sc X W
  po : PassesOwn (model X.prog X.w) X.A X.env X.xe
  fnAll : ∀ x, X.fn x = true
  st : X.stack = X.env :: X.outer
  fr : X.env.frame = some X.env.locals
section
variable {P : Prg} {n : Nat} {N : List PySem.Str} {sc : Scope} {X : Cx} {W : WX}
theorem GS.sto (G : GS P n N sc X W) : StOk N sc X := fun i x h => by
  obtain ⟨h1, _, h3⟩ := storeB_all h
  exact ⟨by rw [G.g.hN]; exact h1, by rw [G.g.hsc]; exact h3, .inl (G.fnAll x)⟩
theorem sub_assign {x : PySem.Str} {p ps : Pos} {k : Expr} {ie : IE} (h : chkE N sc ie k = true) (env : PySem.Env) : ∀ v, assign (.Subscript (.Name x p) k ps) env v = (do
      let ov ← holding [v] (eval (.Name x p) env)
      let iv ← holding [v, ov] (eval k env)
      standAt ps
      holding [v, ov, iv] (setItem ov iv v)
      release [v, ov, iv] []) := by
  cases k <;> first | (intro _; rfl) | (cases ie <;> simp [chkE] at h)
theorem sub_aug {k : Expr} {ie : IE} (h : chkE N sc ie k = true) : ∀ ov iv new, augStore k ov iv new = (do holding [new, ov, iv] (setItem ov iv new); release [new, ov, iv] []; pure .next) := by
  cases k <;> first | (intros; rfl) | (cases ie <;> simp [chkE] at h)
theorem swapped_none {es : List Expr} {k : Nat} {p : Pos} {ie : IE} {e : Expr} (h : chkE N sc ie e = true) (hn : ie.isTup = false) (env : PySem.Env) : swappedStores [.Tuple es k p] e env = pure none := by
  cases e <;> first | rfl | (unfold swappedStores; rfl) | (cases ie <;> first | (simp [chkE] at h; done) | (cases hn; done))
theorem swapped_noSw {es : List Expr} {k : Nat} {p : Pos} {e : Expr} (h : noSwB e = true) (env : PySem.Env) : swappedStores [.Tuple es k p] e env = pure none := by
  cases e <;> first | rfl | (unfold swappedStores; rfl) | skip
  rename_i vs k2 p2
  unfold noSwB at h
  unfold swappedStores
  simp only
  split
  · rfl
  · rename_i h1
    simp only [Bool.or_eq_true, Bool.not_eq_true', bne_iff_ne, ne_eq, not_or] at h1
    rcases Bool.or_eq_true _ _ |>.mp h with h2 | h2
    · exfalso
      simp only [Bool.and_eq_true, bne_iff_ne, ne_eq] at h2
      simp only [Bool.not_eq_true, Bool.or_eq_false_iff, beq_eq_false_iff_ne, Classical.not_not, ne_eq] at h1
      obtain ⟨⟨h3, h4⟩, h5⟩ := h1
      rw [← h4] at h3
      simp_all
    · rw [if_pos h2]
      repeat' split
      all_goals rfl
theorem swapped_sub {x : PySem.Str} {p ps : Pos} {k e : Expr} (env : PySem.Env) : swappedStores [.Subscript (.Name x p) k ps] e env = pure none := by
  cases e <;> first | rfl | (unfold swappedStores; rfl)
/-- name = e -/
theorem sndSet {i : Nat} {a : IE} {x : PySem.Str} {px spos : Pos} {e : Expr} (G : GS P n N sc X W) (h1 : storeB N sc i x = true) (h2 : chkE N sc a e = true) (hci : a.isCI = false) : PS X (.Assign [.Name x px] e spos) (tS X W (sSet i (ev P a).e)) := by
  obtain ⟨k1, k2, k3⟩ := G.sto i x h1
  have s := sndE a sc e X W h2 G.g
  by_cases hc : a.isComp = false
  · exact set_ok G.g.ndX k1 k2 k3 s.1 (chk_swap h2 hc _ _ _)
  · cases a with
    | comp own tg it ifs elt =>
      cases e with
      | ListComp elt' gs scope pos =>
        have hk : X.env.scope.kind = .function := by rw [G.g.hsc]; exact G.g.knd
        cases hb : (decide (X.env.scope.names.lookup x = some .local) && decide (px.line = pos.line) && !(scope.names.any fun (n, k) => n == x && (k == .local || k == .cell))) with
        | false => exact set_ok G.g.ndX k1 k2 k3 s.1 (sw_false hk hb)
        | true =>
          have hl : X.env.scope.names.lookup x = some .local := by
            simp only [Bool.and_eq_true, decide_eq_true_eq] at hb
            exact hb.1.1
          match gs, h2 with
          | [⟨tgE, iter, ifs', ay⟩], h =>
            simp only [chkE, Bool.and_eq_true, decide_eq_true_eq] at h
            obtain ⟨⟨⟨⟨⟨⟨rfl, c1⟩, c2⟩, c3⟩, c4⟩, c5⟩, c6⟩ := h
            have ok : BlkOk X.N X.env.scope scope own := by rw [G.g.hN, G.g.hsc]; exact blkOk_by c1
            have e1 : (ev P (.comp own tg it ifs elt)).e = fComp (evI P it) (tgF tg) (evL P ifs).one (fz (ev P elt).e) (own.map (·.2)) := by rw [ev]; rfl
            rw [e1]
            refine setLc_ok (sl := tgS tg) G.g.calm G.g.ndX k1 hl (sw_false hk hb) (sndI it sc tgE iter X W c4 G.g) ok (fun s H C cl fp => sndT (X := blkX X scope s H C cl fp) G.g.ndX G.g.calm (StOk.blk G.g s H C cl fp) tg tgE c3) (fun s hs => ?_) (fun s H C cl fp => (sndL ifs _ _ _ _ c5 (G.g.blk c1 s H C cl fp)).one) (fun s H C cl fp => fz_ok (sndE elt _ _ _ _ c6 (G.g.blk c1 s H C cl fp)).1) (chkI_fold c4 X.env)
            have := List.all_eq_true.mp c2 s hs
            simpa using this
          | [], h => simp [chkE] at h
          | _ :: _ :: _, h => simp [chkE] at h
      | _ => simp [chkE] at h2
    | comp2 own tg it vs1 tg1 it1 ifs elt =>
      cases e with
      | ListComp elt' gs scope pos =>
        have hk : X.env.scope.kind = .function := by rw [G.g.hsc]; exact G.g.knd
        cases hb : (decide (X.env.scope.names.lookup x = some .local) && decide (px.line = pos.line) && !(scope.names.any fun (n, k) => n == x && (k == .local || k == .cell))) with
        | false => exact set_ok G.g.ndX k1 k2 k3 s.1 (sw_false hk hb)
        | true =>
          have hl : X.env.scope.names.lookup x = some .local := by
            simp only [Bool.and_eq_true, decide_eq_true_eq] at hb
            exact hb.1.1
          match gs, h2 with
          | [⟨tgE, iter, [], ay⟩, ⟨tgE1, iter1, ifs', ay1⟩], h =>
            simp only [chkE, Bool.and_eq_true, decide_eq_true_eq] at h
            obtain ⟨⟨⟨⟨⟨⟨⟨⟨⟨⟨⟨rfl, rfl⟩, c1⟩, c2⟩, c2v⟩, c2t⟩, c3⟩, c4⟩, c3b⟩, c4b⟩, c5⟩, c6⟩ := h
            have ok : BlkOk X.N X.env.scope scope own := by rw [G.g.hN, G.g.hsc]; exact blkOk_by c1
            have e1 : (ev P (.comp2 own tg it vs1 tg1 it1 ifs elt)).e = fComp2 (evI P it) (tgF tg) (evI P it1) (tgF tg1) (evL P ifs).one (fz (ev P elt).e) (own.map (·.2)) vs1 := by rw [ev]; rfl
            rw [e1]
            refine setLc2_ok (sl := tgS tg) (sl1 := tgS tg1) G.g.calm G.g.ndX k1 hl (sw_false hk hb) (sndI it sc tgE iter X W c4 G.g) ok (fun s hs => ?_) (fun s H C cl fp => sndT (X := blkX X scope s H C cl fp) G.g.ndX G.g.calm (StOk.blk G.g s H C cl fp) tg tgE c3) (fun s hs => ?_)
              (fun s H C cl fp => sndI it1 _ tgE1 iter1 _ _ c4b (G.g.blk c1 s H C cl fp)) (fun s H C cl fp => sndT (X := blkX X scope s H C cl fp) G.g.ndX G.g.calm (StOk.blk G.g s H C cl fp) tg1 tgE1 c3b) (fun s hs => ?_) (fun s H C cl fp => (sndL ifs _ _ _ _ c5 (G.g.blk c1 s H C cl fp)).one) (fun s H C cl fp => fz_ok (sndE elt _ _ _ _ c6 (G.g.blk c1 s H C cl fp)).1) (chkI_fold c4 X.env) (fun env => chkI_fold c4b env)
            · have := List.all_eq_true.mp c2v s hs
              simpa using this
            · have := List.all_eq_true.mp c2 s hs
              simpa using this
            · have := List.all_eq_true.mp c2t s hs
              simpa using this
          | [], h => simp [chkE] at h
          | [_], h => simp [chkE] at h
          | _ :: _ :: _ :: _, h => simp [chkE] at h
          | [⟨_, _, _ :: _, _⟩, _], h => simp [chkE] at h
      | _ => simp [chkE] at h2
    | dcomp own tg it k v =>
      cases e with
      | DictComp k' v' gs scope pos =>
        have hk : X.env.scope.kind = .function := by rw [G.g.hsc]; exact G.g.knd
        cases hb : (decide (X.env.scope.names.lookup x = some .local) && decide (px.line = pos.line) && !(scope.names.any fun (n, k) => n == x && (k == .local || k == .cell))) with
        | false => exact set_ok G.g.ndX k1 k2 k3 s.1 (sw_falseD hk hb)
        | true =>
          have hl : X.env.scope.names.lookup x = some .local := by
            simp only [Bool.and_eq_true, decide_eq_true_eq] at hb
            exact hb.1.1
          match gs, h2 with
          | [⟨tgE, iter, [], ay⟩], h =>
            simp only [chkE, Bool.and_eq_true, decide_eq_true_eq] at h
            obtain ⟨⟨⟨⟨⟨⟨rfl, c1⟩, c2⟩, c3⟩, c4⟩, c5⟩, c6⟩ := h
            have ok : BlkOk X.N X.env.scope scope own := by rw [G.g.hN, G.g.hsc]; exact blkOk_by c1
            have e1 : (ev P (.dcomp own tg it k v)).e = fDcomp (evI P it) (tgF tg) (fz (ev P k).e) (fz (ev P v).e) (own.map (·.2)) := by rw [ev]; rfl
            rw [e1]
            refine setDc_ok (sl := tgS tg) G.g.un G.g.calm G.g.ndX k1 hl (sw_falseD hk hb) (sndI it sc tgE iter X W c4 G.g) ok (fun s H C cl fp => sndT (X := blkX X scope s H C cl fp) G.g.ndX G.g.calm (StOk.blk G.g s H C cl fp) tg tgE c3) (fun s hs => ?_)
              (fun s H C cl fp => fz_ok (sndE k _ _ _ _ c5 (G.g.blk c1 s H C cl fp)).1) (fun s H C cl fp => fz_ok (sndE v _ _ _ _ c6 (G.g.blk c1 s H C cl fp)).1) (chkI_fold c4 X.env)
            have := List.all_eq_true.mp c2 s hs
            simpa using this
          | [], h => simp [chkE] at h
          | _ :: _ :: _, h => simp [chkE] at h
          | [⟨_, _, _ :: _, _⟩], h => simp [chkE] at h
      | _ => simp [chkE] at h2
    | compI own tg i ifs elt => cases hci
    | _ => exact absurd rfl hc
theorem notB {b : Bool} (h : (!b) = true) : b = false := by simpa using h
theorem clss_of {X : Cx} {sc : Scope} (hsc : X.env.scope = sc) : ∀ {es : List Expr} {cs : List PySem.Str} {As : List Addr}, namesAre sc es cs = true → cs.map X.mg = As.map (fun a => some (Value.ref a)) → Clss X es As
  | [], [], [], _, _ => .nil
  | [], [], _ :: _, _, h => by simp at h
  | [], _ :: _, _, h, _ => by simp [namesAre] at h
  | e :: es, [], _, h, _ => by cases e <;> simp [namesAre] at h
  | e :: es, c :: cs, [], _, h => by simp at h
  | e :: es, c :: cs, a :: As, h, hm => by
    cases e with
    | Name x p =>
      simp only [namesAre, Bool.and_eq_true, decide_eq_true_eq] at h
      obtain ⟨⟨rfl, h2⟩, h3⟩ := h
      rw [List.map_cons, List.map_cons, List.cons.injEq] at hm
      obtain ⟨g1, g2⟩ := glB_all h2
      exact .cons (by show X.env.scope.names.lookup x = _; rw [hsc]; exact g1) g2 hm.1 (clss_of hsc h3 hm.2)
    | _ => simp [namesAre] at h
theorem hk_ok {X : Cx} {W W0 : WX} {a : Addr} {pn : List (Addr × Obj)} {ie : IE} {e : Expr} (G : GX P n N sc X W) (hk : hkB ie = true) (gl : hkL ie = true → glB sc "len" = true) (h : chkE N sc ie e = true) : PE (X.suite a pn) e (tD X W0 (fz (ev P ie).e)) := by
  unfold hkB at hk
  split at hk
  · rename_i i
    cases e with
    | Compare l ops cs pos =>
      match ops, cs, h with
      | [o'], [r], h =>
        simp only [chkE, Bool.and_eq_true, decide_eq_true_eq] at h
        obtain ⟨⟨rfl, h1⟩, h2⟩ := h
        have hm := chk_behind (ie := .cst .none) (e := r) (sc := sc) (N := N) (by simpa only [chkE, Bool.and_eq_true, decide_eq_true_eq] using h2) .Is
        cases l <;> first | (simp [chkE] at h1; done) | skip
        cases r <;> first | (simp [chkE] at h2; done) | skip
        simp only [chkE, Bool.and_eq_true, decide_eq_true_eq] at h1 h2
        obtain ⟨k1, k2, k3, k4⟩ := G.vis h1
        obtain ⟨rfl, h3⟩ := h2
        have e2 : (ev P (.cst .none)).e = unfz (fCst .none) := by rw [ev]; rfl
        rw [ev]
        exact fz_ok (X := X.suite a pn) (cmp_ok (X := X.suite a pn) G.un (ovar_ok (X := X.suite a pn) k1 k2 k3 k4) (op1_ok (X := X.suite a pn) (fz_ok (X := X.suite a pn) (by rw [e2]; exact unfz_ok (X := X.suite a pn) (cst_ok (X := X.suite a pn) rfl)))) hm)
      | [], _, h => simp [chkE] at h
      | [_], [], h => simp [chkE] at h
      | [_], _ :: _ :: _, h => simp [chkE] at h
      | _ :: _ :: _, _, h => simp [chkE] at h
    | _ => simp [chkE] at h
  · rename_i i m
    cases e with
    | Compare l ops cs pos =>
      match ops, cs, h with
      | [o'], [r], h =>
        simp only [chkE, Bool.and_eq_true, decide_eq_true_eq] at h
        obtain ⟨⟨rfl, h1⟩, h2⟩ := h
        have hm := chk_behind (ie := .cst (.int m)) (e := r) (sc := sc) (N := N) (by simpa only [chkE, Bool.and_eq_true, decide_eq_true_eq] using h2) .Gt
        cases r <;> first | (simp [chkE] at h2; done) | skip
        simp only [chkE, Bool.and_eq_true, decide_eq_true_eq] at h2
        obtain ⟨rfl, h3⟩ := h2
        have e2 : (ev P (.cst (.int m))).e = unfz (fCst (.int m)) := by rw [ev]; rfl
        cases l with
        | Call fn xs kws p2 =>
          cases kws with
          | cons _ _ => simp [chkE] at h1
          | nil =>
            cases fn with
            | Name x p =>
              simp only [chkE, Bool.and_eq_true, decide_eq_true_eq] at h1
              obtain ⟨⟨⟨rfl, h1⟩, h0⟩, h4⟩ := h1
              match xs, h4 with
              | [y], h4 =>
                simp only [chkL, Bool.and_eq_true, and_true] at h4
                cases y <;> first | (simp [chkE] at h4; done) | skip
                rename_i nm pnm
                simp only [chkE] at h4
                obtain ⟨k1, k2, k3, k4⟩ := G.vis h4
                have hb : PE (X.suite a pn) (.Call (.Name "len" p) [.Name nm pnm] [] p2) (tE X W0 (fBlt lenD (aCons (oVar i) aNil))) :=
                  (pe_callB (X := X.suite a pn) (bltLen (X := X.suite a pn)) (G.gl (gl rfl)).1 (G.free _ (by decide)) (by decide +kernel) (acons_ok (X := X.suite a pn) (ovar_ok (X := X.suite a pn) k1 k2 k3 k4) (anil_ok (X := X.suite a pn)) rfl) (by decide) (by decide) rfl rfl).imp (blt_of (X := X.suite a pn))
                have e3 : (ev P (.blt .len (.cons (.var i) .nil))).e = fBlt lenD (aCons (oVar i) aNil) := by rw [ev, evL, evL]; rfl
                rw [ev]
                exact fz_ok (X := X.suite a pn) (cmp_ok (X := X.suite a pn) G.un (op1_ok (X := X.suite a pn) (fz_ok (X := X.suite a pn) (by rw [e3]; exact hb))) (op1_ok (X := X.suite a pn) (fz_ok (X := X.suite a pn) (by rw [e2]; exact unfz_ok (X := X.suite a pn) (cst_ok (X := X.suite a pn) rfl)))) hm)
              | [], h4 => simp [chkL] at h4
              | _ :: _ :: _, h4 => simp [chkL] at h4
            | _ => simp [chkE] at h1
        | _ => simp [chkE] at h1
      | [], _, h => simp [chkE] at h
      | [_], [], h => simp [chkE] at h
      | [_], _ :: _ :: _, h => simp [chkE] at h
      | _ :: _ :: _, _, h => simp [chkE] at h
    | _ => simp [chkE] at h
  · cases hk
mutual
theorem sndS {X : Cx} {W : WX} : ∀ (s : IS) (st : Stmt), chkS N sc s st = true → GS P n N sc X W → PS X st (tS X W (evS P s))
  | .set i a, st, h, G => by
    simp only [chkS] at h
    split at h
    · rename_i t e pos hs
      split at h
      · rename_i x hx
        obtain ⟨px, rfl⟩ := nameOf_some hx
        cases asg1_some hs
        simp only [Bool.and_eq_true] at h
        rw [evS]
        exact sndSet G h.1.1 h.1.2 (notB h.2)
      · cases h
    · cases h
  | .tgt t a, st, h, G => by
    simp only [chkS] at h
    split at h
    · rename_i tg e pos hs
      cases asg1_some hs
      simp only [Bool.and_eq_true] at h
      obtain ⟨⟨⟨⟨h0, h1⟩, h2⟩, h3⟩, h4⟩ := h
      obtain ⟨es, k, p, rfl⟩ := isTupE_some h0
      rw [evS]
      exact tgt_ok (fz_ok (sndE a sc e X W h2 G.g).1) (sndT G.g.ndX G.g.calm G.sto t _ h1) (show swapsWith e (some (.Tuple es k p)) pos.line X.env = pure false from chk_swap h2 (notB h4) _ _ _) (by
        rcases Bool.or_eq_true _ _ |>.mp h3 with h3 | h3
        · exact swapped_none h2 (notB h3) _
        · exact swapped_noSw h3 _) (by rw [chkT_star h1]; rfl)
    · cases h
  | .aug i o a, st, h, G => by
    cases st with
    | AugAssign tg op e pos =>
      simp only [chkS] at h
      split at h
      · rename_i x hx
        obtain ⟨px, rfl⟩ := nameOf_some hx
        simp only [Bool.and_eq_true, decide_eq_true_eq] at h
        obtain ⟨⟨h1, rfl⟩, h2⟩ := h
        obtain ⟨k1, k2, k3⟩ := G.sto i x h1
        rw [evS]
        exact aug_ok G.g.ndX k1 k2 k3 (oE_ok G.g h2 (sndE a sc e X W h2 G.g).1)
      · cases h
    | _ => simp [chkS] at h
  | .sub i a b, st, h, G => by
    simp only [chkS] at h
    split at h
    · rename_i t e pos hs
      split at h
      · rename_i x k hx
        obtain ⟨px, ps, rfl⟩ := subOf_some hx
        cases asg1_some hs
        simp only [Bool.and_eq_true] at h
        obtain ⟨⟨⟨h1, h2⟩, h3⟩, h4⟩ := h
        obtain ⟨k1, k2, k3, k4⟩ := G.g.vis h1
        rw [evS]
        exact sub_ok G.g.un k1 k2 k3 k4 (fz_ok (sndE a sc k X W h2 G.g).1) (fz_ok (sndE b sc e X W h3 G.g).1) (show swapsWith e (some (.Subscript (.Name x px) k ps)) pos.line X.env = pure false from chk_swap h3 (notB h4) _ _ _) (swapped_sub _) rfl (sub_assign h2 _)
      · cases h
    · cases h
  | .saug i o a b, st, h, G => by
    cases st with
    | AugAssign tg op e pos =>
      simp only [chkS] at h
      split at h
      · rename_i x k hx
        obtain ⟨px, ps, rfl⟩ := subOf_some hx
        simp only [Bool.and_eq_true, decide_eq_true_eq] at h
        obtain ⟨⟨⟨h1, rfl⟩, h2⟩, h3⟩ := h
        obtain ⟨k1, k2, k3, k4⟩ := G.g.vis h1
        rw [evS]
        exact saug_ok k1 k2 k3 k4 (fz_ok (sndE a sc k X W h2 G.g).1) (fz_ok (sndE b sc e X W h3 G.g).1) (sub_aug h2)
      · cases h
    | _ => simp [chkS] at h
  | .expr a, st, h, G => by
    cases st with
    | Expr e pos =>
      simp only [chkS, Bool.and_eq_true] at h
      rw [evS]
      exact expr_ok (fz_ok (sndE a sc e X W h.1 G.g).1) (chk_swap h.1 (notB h.2) _ _ _)
    | _ => simp [chkS] at h
  | .ret a, st, h, G => by
    cases st with
    | Return eo pos =>
      simp only [chkS] at h
      cases eo with
      | none => cases h
      | some e =>
        rw [evS]
        exact ret_ok (fz_ok (sndE a sc e X W h G.g).1)
    | _ => simp [chkS] at h
  | .retN, st, h, G => by
    cases st with
    | Return eo pos =>
      simp only [chkS] at h
      cases eo with
      | none => rw [evS]; exact retN_ok
      | some e => cases h
    | _ => simp [chkS] at h
  | .ite t a b, st, h, G => by
    cases st with
    | If c x y pos =>
      simp only [chkS, Bool.and_eq_true] at h
      obtain ⟨⟨h1, h2⟩, h3⟩ := h
      rw [evS]
      exact ifs_ok (sndE t sc c X W h1 G.g).2 (sndSs a x h2 G) (sndSs b y h3 G)
    | _ => simp [chkS] at h
  | .for t it b, st, h, G => by
    cases st with
    | For tg iter body orelse pos =>
      simp only [chkS, Bool.and_eq_true] at h
      obtain ⟨⟨⟨h0, h1⟩, h2⟩, h3⟩ := h
      cases orelse with
      | cons _ _ => cases h0
      | nil =>
        rw [evS]
        exact for_ok G.po G.g.calm (sndI it sc tg iter X W h2 G.g) (sndT G.g.ndX G.g.calm G.sto t tg h1) (sndSs b body h3 G) (chkI_fold h2 X.env)
    | _ => simp [chkS] at h
  | .forO j t k a b, st, h, G => by
    cases st with
    | For tg iter body orelse pos =>
      simp only [chkS] at h
      split at h
      · rename_i y hy
        obtain ⟨py, rfl⟩ := nameOf_some hy
        simp only [Bool.and_eq_true] at h
        obtain ⟨⟨⟨⟨h0, hv⟩, ht⟩, hj⟩, hb⟩ := h
        cases orelse with
        | cons _ _ => cases h0
        | nil =>
          split at hb
          · rename_i st
            split at hb
            · rename_i tt e pos2 hs
              split at hb
              · rename_i x kk hx
                obtain ⟨px, ps, rfl⟩ := subOf_some hx
                cases asg1_some hs
                simp only [Bool.and_eq_true] at hb
                obtain ⟨⟨⟨h1, h2⟩, h3⟩, h4⟩ := hb
                obtain ⟨k1, k2, k3, k4⟩ := G.g.vis h1
                obtain ⟨v1, v2, v3, v4⟩ := G.g.vis hv
                rw [evS]
                exact forO_ok G.po G.g.calm v1 v2 v3 v4 (sndT G.g.ndX G.g.calm G.sto t tg ht) (fun z => by
                  have : (tgS t).contains j = true := List.contains_iff_mem.mpr z
                  rw [this] at hj; cases hj)
                  (suite1 (sub_okK G.g.un k1 k2 k3 k4 (fz_ok (sndE a sc kk X W h2 G.g).1) (fz_ok (sndE b sc e X W h3 G.g).1) (show swapsWith e (some (.Subscript (.Name x px) kk ps)) pos2.line X.env = pure false from chk_swap h3 (notB h4) _ _ _) (swapped_sub _) rfl (sub_assign h2 _)))
              · cases hb
            · cases hb
          · cases hb
      · cases h
    | _ => simp [chkS] at h
  | .forI i t b, st, h, G => by
    cases st with
    | For tg iter body orelse pos =>
      simp only [chkS] at h
      split at h
      · rename_i x hi
        simp only [Bool.and_eq_true] at h
        obtain ⟨⟨⟨⟨h0, ht⟩, hv⟩, h1⟩, h3⟩ := h
        cases orelse with
        | cons _ _ => cases h0
        | nil =>
          obtain ⟨p, ap, cp, rfl, hl⟩ := itemsOf_some hi
          obtain ⟨es, kk, tp, rfl⟩ := isTupE_some ht
          obtain ⟨k1, k2, k3, k4⟩ := G.g.vis hv
          rw [evS]
          exact forI_ok G.po G.g.calm k1 k2 k3 k4 (beq_iff_eq.mpr hl) (sndT G.g.ndX G.g.calm G.sto t _ h1) (sndSs b body h3 G)
      · cases h
    | _ => simp [chkS] at h
  | .setDE i own tg en j k v, st, h, G => by
    simp only [chkS] at h
    split at h
    · rename_i t hs
      obtain rfl := sdeOf_some hs
      split at h
      · rename_i x hx
        obtain ⟨y, py, kx, vx, tgE, iter, a, scope, pos, spos⟩ := t
        simp only [Bool.and_eq_true, decide_eq_true_eq] at h
        obtain ⟨⟨⟨⟨⟨⟨⟨rfl, c1⟩, c2⟩, c3⟩, c4⟩, c5⟩, c6⟩, ⟨⟨⟨c7, c8⟩, c9⟩, c10⟩, c11⟩ := h
        obtain ⟨k1, k2, k3⟩ := G.sto i y c1
        obtain ⟨v1, v2, v3, v4⟩ := G.g.vis c5
        have hk : X.env.scope.kind = .function := by rw [G.g.hsc]; exact G.g.knd
        have hl : X.env.scope.names.lookup y = some .local := by rw [G.g.hsc]; exact c2
        have ok : BlkOk X.N X.env.scope scope own := by rw [G.g.hN, G.g.hsc]; exact blkOk_by c7
        have hb : (decide (X.env.scope.names.lookup y = some .local) && decide (py.line = pos.line) && !(scope.names.any fun (n, k) => n == y && (k == .local || k == .cell))) = true := by
          simp only [Bool.and_eq_true, decide_eq_true_eq]
          exact ⟨⟨hl, c3⟩, c4⟩
        rw [evS]
        have hsl : ∀ s ∈ tgS tg, s ∈ own.map (·.2) := fun s hs => by
          have := List.all_eq_true.mp c8 s hs
          simpa using this
        cases en with
        | false =>
          obtain ⟨p, rfl⟩ := ownOf_f hx
          exact setDE_ok (sl := tgS tg) G.g.un G.g.calm G.g.ndX k1 hl (sw_falseD hk hb) (pi_ownL v1 v2 v3 v4) (fun z => nomatch z) ok (fun s H C cl fp => sndT (X := blkX X scope s H C cl fp) G.g.ndX G.g.calm (StOk.blk G.g s H C cl fp) tg tgE c9) hsl
            (fun s H C cl fp => fz_ok (sndE k _ _ _ _ c10 (G.g.blk c7 s H C cl fp)).1) (fun s H C cl fp => fz_ok (sndE v _ _ _ _ c11 (G.g.blk c7 s H C cl fp)).1) (fun _ => rfl)
        | true =>
          obtain ⟨p, p2, pos2, rfl⟩ := ownOf_t hx
          simp only [Bool.not_true, Bool.false_or, Bool.and_eq_true] at c6
          obtain ⟨es, kk, tp, rfl⟩ := isTupE_some c6.1
          exact setDE_ok (sl := tgS tg) G.g.un G.g.calm G.g.ndX k1 hl (sw_falseD hk hb) (pi_ownE (G.g.gl c6.2).1 (G.g.free _ (by decide)) v1 v2 v3 v4) (fun _ => rfl) ok (fun s H C cl fp => sndT (X := blkX X scope s H C cl fp) G.g.ndX G.g.calm (StOk.blk G.g s H C cl fp) tg _ c9) hsl
            (fun s H C cl fp => fz_ok (sndE k _ _ _ _ c10 (G.g.blk c7 s H C cl fp)).1) (fun s H C cl fp => fz_ok (sndE v _ _ _ _ c11 (G.g.blk c7 s H C cl fp)).1) (fun _ => rfl)
      · cases h
    · cases h
  | .while t b, st, h, G => by
    cases st with
    | While c body orelse pos =>
      simp only [chkS, Bool.and_eq_true] at h
      obtain ⟨⟨h0, h1⟩, h2⟩ := h
      cases orelse with
      | cons _ _ => cases h0
      | nil =>
        rw [evS]
        exact while_ok G.po (sndE t sc c X W h1 G.g).2 (sndSs b body h2 G)
    | _ => simp [chkS] at h
  | .brk, st, h, G => by
    cases st <;> first | (simp [chkS] at h; done) | (rw [evS]; exact break_ok)
  | .cnt, st, h, G => by
    cases st <;> first | (simp [chkS] at h; done) | (rw [evS]; exact cont_ok)
  | .pass, st, h, G => by
    simp only [chkS] at h
    rw [evS]
    unfold isPass at h
    split at h
    · exact pass_ok
    · exact doc_ok
    · cases h
  | .stuck, st, h, G => by
    rw [evS]
    exact ⟨fun _ _ _ _ _ _ ⟨_, _, _, _, _, _, _, h, _⟩ => nomatch h⟩
  | .raise c, st, h, G => by
    simp only [chkS] at h
    split at h
    · rename_i x hx
      obtain ⟨p, m, j, p2, p3, p4, rfl⟩ := raiseOf_some hx
      simp only [Bool.and_eq_true, decide_eq_true_eq] at h
      obtain ⟨rfl, h2⟩ := h
      obtain ⟨g1, g2⟩ := G.g.gl h2
      rw [evS]
      by_cases hx : P.exc c = true
      · rw [if_pos hx]
        obtain ⟨C, e1, e2, e3, e4⟩ := G.g.exc c hx
        exact raise_ok G.g.calm G.g.tk PySem.F.excBase_ValueError e1 e2 e3 e4 g1 g2
      · rw [if_neg hx]
        exact ⟨fun _ _ _ _ _ _ ⟨_, _, _, _, _, _, _, h, _⟩ => nomatch h⟩
    · cases h
  | .tryx i j k c R cs a, st, h, G => by
    simp only [chkS] at h
    split at h
    · rename_i t ht
      have := tryOf_some ht
      subst this
      obtain ⟨x, p0, call, q0, c', np, en, y, p, n1, p1, en1, p2, R', p3, p4, n2, p5, en2, p6, ve, p7, p8, p9, q1, n3, q2, en3, q3, es, kk, q4, q5, k2, q6, q7, q8, pos', pos⟩ := t
      simp only [Bool.and_eq_true, decide_eq_true_eq, Bool.not_eq_true'] at h
      obtain ⟨⟨⟨⟨⟨⟨⟨⟨⟨⟨⟨⟨⟨⟨⟨⟨⟨⟨⟨⟨⟨rfl, rfl⟩, rfl⟩, rfl⟩, rfl⟩, rfl⟩, rfl⟩, rfl⟩, rfl⟩, hx⟩, hy⟩, hk⟩, hl⟩, hkj⟩, gc⟩, gR⟩, gi⟩, gV⟩, hcs⟩, hlen⟩, ha⟩, hco⟩ := h
      rw [evS]
      by_cases ht : P.tri c' R' cs = true
      · rw [if_pos ht]
        obtain ⟨D, Ra, As, C, mc, hyes, mR, e1, e2, mcs, e3, mV, _, _⟩ := G.g.tri _ _ _ ht
        obtain ⟨i1, i2, i3⟩ := G.sto i x hx
        obtain ⟨j1, j2, j3⟩ := G.sto j y hy
        obtain ⟨k1, k2', k3, k4⟩ := G.g.vis hk
        have hc := clss_of (X := X) G.g.hsc hcs mcs
        exact tryx_ok C G.st G.fr G.g.tk G.g.ndX i1 i2 (G.fnAll x) j1 j2 (G.fnAll y) k1 (by show X.env.scope.names.lookup _ = _; rw [G.g.hsc]; exact hl) k2' k3 k4 hkj (G.g.gl gc).1 (G.g.gl gc).2 mc hyes (G.g.gl gi).1 (G.g.free _ (by decide)) (G.g.gl gR).1 mR (G.g.gl gR).2 (G.g.gl gV).1 mV e1 e2 hc e3
          (by have := congrArg List.length mcs; rw [List.length_map, List.length_map] at this; rw [← this, sizeLine_eq]; omega)
          (fun W' pn xe tk' => (sndE a sc call (X.tr pn xe) W' ha ⟨G.g.hN, G.g.hsc, G.g.nd, G.g.knd, tk', G.g.un, G.g.calm, G.g.room, fun x np cf h => ⟨(G.g.call x np cf h).ex⟩, G.g.con, G.g.free, G.g.exc, G.g.tri, G.g.dic, fun x np cf h => ⟨(G.g.callF x np cf h).ex⟩⟩).1) (chk_swap ha hco _ _ _)
      · rw [if_neg ht]
        exact ⟨fun _ _ _ _ _ _ ⟨_, _, _, _, _, _, _, h, _⟩ => nomatch h⟩
    · cases h
  | .tryv k j c R cs cs' msg b, st, h, G => by
    simp only [chkS] at h
    split at h
    · rename_i t ht
      have := tryvOf_some ht
      subst this
      obtain ⟨body, R, np, en, y1, p1, n1, p2, en1, p3, es, kk, p4, p5, q1, y2, p6, y3, p7, n2, p8, en2, p9, es2, kk2, p10, p11, p12, q2, n3, p13, en3, p14, c, p15, p16, n4, p17, en4, p18, ve, p19, p20, y4, p21, p22, p23, msg, k2, p24, q3, q4, msg2, k3, q5, q6, pos2, pos⟩ := t
      simp only [Bool.and_eq_true, decide_eq_true_eq, Bool.not_eq_true'] at h
      obtain ⟨⟨⟨⟨⟨⟨⟨⟨⟨⟨⟨⟨⟨⟨⟨⟨rfl, rfl⟩, rfl⟩, rfl⟩, rfl⟩, rfl⟩, rfl⟩, rfl⟩, rfl⟩, rfl⟩, rfl⟩, rfl⟩, rfl⟩, rfl⟩, rfl⟩, ⟨⟨⟨⟨⟨⟨⟨⟨⟨⟨⟨⟨hy, hy'⟩, hk⟩, hl⟩, hkj⟩, gc⟩, gR⟩, gi⟩, gV⟩, hcs⟩, hlen⟩, hcs'⟩, hlen'⟩⟩, hb⟩ := h
      rw [evS]
      split
      · rename_i ht
        simp only [Bool.and_eq_true] at ht
        obtain ⟨D, Ra, As, C, mc, hyes, mR, e1, e2, mcs, e3, mV, hyR, e4⟩ := G.g.tri _ _ _ ht.1
        obtain ⟨D', Ra', As', C', mc', _, _, _, _, mcs', e3', _, _, _⟩ := G.g.tri _ _ _ ht.2
        have eD : D' = D := by rw [mc] at mc'; cases mc'; rfl
        subst eD
        obtain ⟨j1, j2, j3⟩ := G.sto j _ hy
        obtain ⟨j4, j5, j6, j7⟩ := G.g.vis hy'
        obtain ⟨k1, k2', k3, k4⟩ := G.g.vis hk
        have hc := clss_of (X := X) G.g.hsc hcs mcs
        have hc' := clss_of (X := X) G.g.hsc hcs' mcs'
        have lenOf : ∀ {cs : List PySem.Str} {As : List Addr}, cs.map X.mg = As.map (fun a => some (Value.ref a)) → cs.length ≤ 1000 → As.length ≤ sizeLine := fun mcs hlen => by
          have := congrArg List.length mcs; rw [List.length_map, List.length_map] at this; rw [← this, sizeLine_eq]; omega
        exact tryv_ok C G.st G.fr G.g.tk G.g.ndX j1 j2 (G.fnAll _) j5 j6 j7 k1 (by show X.env.scope.names.lookup _ = _; rw [G.g.hsc]; exact hl) k2' k3 k4 hkj (G.g.gl gc).1 (G.g.gl gc).2 mc (G.g.gl gi).1 (G.g.free _ (by decide)) (G.g.gl gR).1 mR (G.g.gl gR).2 hyR (G.g.gl gV).1 mV e4 e2 hc e3 (lenOf mcs hlen) hc' e3' (lenOf mcs' hlen')
          (fun W' pn xe tk' po' => sndSs (X := X.tr pn xe) (W := W') b _ hb ⟨⟨G.g.hN, G.g.hsc, G.g.nd, G.g.knd, tk', G.g.un, G.g.calm, G.g.room, fun x np cf h => ⟨(G.g.call x np cf h).ex⟩, G.g.con, G.g.free, G.g.exc, G.g.tri, G.g.dic, fun x np cf h => ⟨(G.g.callF x np cf h).ex⟩⟩, po', G.fnAll, G.st, G.fr⟩)
      · exact ⟨fun _ _ _ _ _ _ ⟨_, _, _, _, _, _, _, h, _⟩ => nomatch h⟩
    · cases h
  | .tryz k c R cs b, st, h, G => by
    simp only [chkS] at h
    split at h
    · rename_i t ht
      have := tryzOf_some ht
      subst this
      obtain ⟨body, c, np, en, n1, p1, en1, p2, es, kk, p3, p4, k2, p5, q1, q2, n2, p6, en2, p7, R, p8, p9, n3, p10, en3, p11, ve, p12, p13, p14, q3, pos2, pos⟩ := t
      simp only [Bool.and_eq_true, decide_eq_true_eq, Bool.not_eq_true'] at h
      obtain ⟨⟨⟨⟨⟨⟨⟨⟨⟨⟨rfl, rfl⟩, rfl⟩, rfl⟩, rfl⟩, rfl⟩, rfl⟩, rfl⟩, rfl⟩, ⟨⟨⟨⟨⟨⟨⟨hk, hl⟩, gc⟩, gR⟩, gi⟩, gV⟩, hcs⟩, hlen⟩⟩, hb⟩ := h
      rw [evS]
      split
      · rename_i ht
        obtain ⟨D, Ra, As, C, mc, hyes, mR, e1, e2, mcs, e3, mV, hyR, e4⟩ := G.g.tri _ _ _ ht
        obtain ⟨k1, k2', k3, k4⟩ := G.g.vis hk
        have hc := clss_of (X := X) G.g.hsc hcs mcs
        have lenOf : As.length ≤ sizeLine := by
          have := congrArg List.length mcs; rw [List.length_map, List.length_map] at this; rw [← this, sizeLine_eq]; omega
        exact tryz_ok C G.st G.fr G.g.tk G.g.ndX k1 (by show X.env.scope.names.lookup _ = _; rw [G.g.hsc]; exact hl) k2' k3 k4 (G.g.gl gc).1 (G.g.gl gc).2 mc hyes (G.g.gl gi).1 (G.g.free _ (by decide)) (G.g.gl gR).1 mR (G.g.gl gR).2 (G.g.gl gV).1 mV e1 e2 hc e3 lenOf
          (fun W' pn xe tk' po' => sndSs (X := X.tr pn xe) (W := W') b _ hb ⟨⟨G.g.hN, G.g.hsc, G.g.nd, G.g.knd, tk', G.g.un, G.g.calm, G.g.room, fun x np cf h => ⟨(G.g.call x np cf h).ex⟩, G.g.con, G.g.free, G.g.exc, G.g.tri, G.g.dic, fun x np cf h => ⟨(G.g.callF x np cf h).ex⟩⟩, po', G.fnAll, G.st, G.fr⟩)
      · exact ⟨fun _ _ _ _ _ _ ⟨_, _, _, _, _, _, _, h, _⟩ => nomatch h⟩
    · cases h
  | .tryo c R b a, st, h, G => by
    simp only [chkS] at h
    split at h
    · rename_i t ht
      have := tryoOf_some ht
      subst this
      obtain ⟨body, c, np, e, q1, pos2, pos⟩ := t
      simp only [Bool.and_eq_true, decide_eq_true_eq] at h
      obtain ⟨⟨⟨⟨⟨rfl, hk⟩, gc⟩, gl⟩, ha⟩, hb⟩ := h
      rw [evS]
      split
      · rename_i ht
        obtain ⟨D, Ra, As, C, mc, hyes, mR, e1, e2, mcs, e3, mV, hyR, e4⟩ := G.g.tri _ _ _ ht
        exact tryo_ok G.st G.fr G.g.tk (G.g.gl gc).1 (G.g.gl gc).2 mc hyes (fun a pn => hk_ok G.g hk (fun z => by rw [z] at gl; exact gl) ha)
          (fun W' pn xe tk' po' => sndSs (X := X.tr pn xe) (W := W') b _ hb ⟨⟨G.g.hN, G.g.hsc, G.g.nd, G.g.knd, tk', G.g.un, G.g.calm, G.g.room, fun x np cf h => ⟨(G.g.call x np cf h).ex⟩, G.g.con, G.g.free, G.g.exc, G.g.tri, G.g.dic, fun x np cf h => ⟨(G.g.callF x np cf h).ex⟩⟩, po', G.fnAll, G.st, G.fr⟩)
      · exact ⟨fun _ _ _ _ _ _ ⟨_, _, _, _, _, _, _, h, _⟩ => nomatch h⟩
    · cases h
theorem sndSs {X : Cx} {W : WX} : ∀ (ss : ISs) (sts : List Stmt), chkSs N sc ss sts = true → GS P n N sc X W → PSs X sts (tS X W (evSs P ss))
  | .nil, sts, h, G => by
    cases sts with
    | nil => rw [evSs]; exact skip_ok
    | cons _ _ => simp [chkSs] at h
  | .cons s ss, sts, h, G => by
    cases sts with
    | nil => simp [chkSs] at h
    | cons st sts =>
      simp only [chkSs, Bool.and_eq_true] at h
      rw [evSs]
      exact seq_ok (sndS s st h.1 G) (sndSs ss sts h.2 G)
end
theorem freshSs_cons {s : IS} {ss : ISs} (h : ∀ e, s = .ret e → ss ≠ .nil) : freshSs P (.cons s ss) = fun env => match evS P s env with
    | some (.nx e) => freshSs P ss e
    | _ => none := by
  cases s with
  | ret e =>
    cases ss with
    | nil => exact absurd rfl (h e rfl)
    | cons _ _ => rfl
  | _ => rfl
/-- a suite whose last statement returns something new -/
theorem sndF {X : Cx} {W : WX} : ∀ (ss : ISs) (sts : List Stmt), chkSs N sc ss sts = true → GS P n N sc X W → PSs X sts (tSF X (freshSs P ss))
  | .nil, sts, h, G => ⟨fun _ _ _ _ _ _ ⟨_, _, _, _, _, _, _, h, _⟩ => nomatch h⟩
  | .cons s ss, sts, h, G => by
    cases sts with
    | nil => simp [chkSs] at h
    | cons st sts =>
      simp only [chkSs, Bool.and_eq_true] at h
      by_cases hc : ∃ e, s = .ret e ∧ ss = .nil
      · obtain ⟨e, rfl, rfl⟩ := hc
        cases sts with
        | cons _ _ => have := h.2; simp [chkSs] at this
        | nil =>
          have h1 := h.1
          cases st with
          | Return eo pos =>
            simp only [chkS] at h1
            cases eo with
            | none => cases h1
            | some ex =>
              have e1 : freshSs P (.cons (.ret e) .nil) = freshE P e := rfl
              rw [e1]
              cases e with
              | var i =>
                cases ex <;> first | (simp [chkE] at h1; done) | skip
                simp only [chkE] at h1
                obtain ⟨k1, k2, k3, k4⟩ := G.g.vis h1
                exact oneF_ok (retV_ok k1 k2 k3 k4)
              | _ => exact oneF_ok (retF_ok (sndE _ sc ex X W h1 G.g).1)
          | _ => simp [chkS] at h1
      · rw [freshSs_cons fun e he hn => hc ⟨e, he, hn⟩]
        exact seqF_ok (sndS s st h.1 G) (sndF ss sts h.2 G)
end
end PyI

namespace PyI
open PySem PySem.Spec L2 PyProof.Rows

/-! ## defs, programs -/
structure Fn where
  N : List PySem.Str
  np : Nat
  body : ISs
def env0 (f : Fn) (ds : List PyData) : Ev := ds.map .val ++ List.replicate (f.N.length - f.np) .und
def outOf : Option So → Option COut
  | some (.nx _) => some (.ret .none)
  | some (.ret d) => some (.ret d)
  | some (.exc c _) => some (.exc c)
  | _ => none
def runFn (P : Prg) (f : Fn) : CF := fun ds => if ds.length = f.np then outOf (evSs P f.body (env0 f ds)) else none
/-- a text: its defs, its constants, its exception classes -/
structure Txt where
  fns : List (PySem.Str × Fn)
  con : List (PySem.Str × PyData)
  exc : List PySem.Str
  tri : List (PySem.Str × PySem.Str × List PySem.Str)
  fuel : Nat
  dic : List (PySem.Str × List (PyData × PyData))
/-- a def whose result is new -/
def runFnF (P : Prg) (f : Fn) : CFF := fun ds => if ds.length = f.np then freshSs P f.body (env0 f ds) else none
def prgOf (T : Txt) (c : PySem.Str → Option (Nat × CF)) (d : PySem.Str → Option (Nat × CFF)) : Prg := ⟨c, fun x => T.con.lookup x, fun x => T.exc.contains x, fun c R cs => T.tri.contains (c, R, cs), T.fuel, fun x => T.dic.lookup x, d⟩
def callAts (T : Txt) : Nat → (PySem.Str → Option (Nat × CF)) × (PySem.Str → Option (Nat × CFF))
  | 0 => (fun _ => none, fun _ => none)
  | n + 1 => (fun x => match T.fns.lookup x with
    | some f => some (f.np, runFn (prgOf T (callAts T n).1 (callAts T n).2) f)
    | none => none, fun x => match T.fns.lookup x with
    | some f => some (f.np, runFnF (prgOf T (callAts T n).1 (callAts T n).2) f)
    | none => none)
def callAt (T : Txt) (n : Nat) : PySem.Str → Option (Nat × CF) := (callAts T n).1
def callAtF (T : Txt) (n : Nat) : PySem.Str → Option (Nat × CFF) := (callAts T n).2
def prgAt (T : Txt) (n : Nat) : Prg := ⟨callAt T n, fun x => T.con.lookup x, fun x => T.exc.contains x, fun c R cs => T.tri.contains (c, R, cs), T.fuel, fun x => T.dic.lookup x, callAtF T n⟩
theorem callAtF_succ (T : Txt) (n : Nat) (x : PySem.Str) : callAtF T (n + 1) x = match T.fns.lookup x with
    | some f => some (f.np, runFnF (prgAt T n) f)
    | none => none := rfl
theorem callAt_succ (T : Txt) (n : Nat) (x : PySem.Str) : callAt T (n + 1) x = match T.fns.lookup x with
    | some f => some (f.np, runFn (prgAt T n) f)
    | none => none := rfl
/-- where the text stands behind the top -/
structure FnLink (K : PySem.W.Frag) (mg : PySem.Str → Option Value) (x : PySem.Str) (fn : Fn) : Prop where
  ex : ∃ (st : Stmt) (f : Addr) (fd : FuncData) (ps : List PySem.Str), Fun K x x st f fd ∧ FnScope fn.N ps (defScope st) ∧ ps.length = fn.np ∧ chkSs fn.N (defScope st) fn.body (defBody st) = true ∧ mg x = some (.ref f) ∧ Binds K fd ps []
structure TxtLink (w : World) (K : PySem.W.Frag) (mg : PySem.Str → Option Value) (T : Txt) : Prop where
  fns : ∀ x f, T.fns.lookup x = some f → FnLink K mg x f
  con : ∀ x d, T.con.lookup x = some d → ∃ u v, mg x = some u ∧ RelV v u ∧ ∀ H, Rep K H v d
  free : ∀ x ∈ bltNamesAll, mg x = none
  exc : ∀ c ∈ T.exc, ∃ C, PySem.W.excIn K C [.type "ValueError", .type "Exception", .type "BaseException", .type "object"] "ValueError.__new__" = true ∧ mg c = some (.ref C) ∧ PySem.W.keepIn K (.ref C) = true ∧ PySem.W.subIn K (.ref C) (.type "BaseException") = some true ∧ PySem.W.typeIn K (.ref C) = some (.type "type")
  tri : ∀ t ∈ T.tri, ∃ (D Ra : Addr) (As : List Addr), ExcC K D ∧ mg t.1 = some (.ref D) ∧ PySem.W.exmOne K (.ref D) (.ref D) = some true ∧ mg t.2.1 = some (.ref Ra) ∧ PySem.W.kitOne K (.ref D) (.ref Ra) = some true ∧ PySem.W.kitOne K (.ref D) (.type "ValueError") = some true ∧
    t.2.2.map mg = As.map (fun a => some (.ref a)) ∧ PySem.W.kitAny K (.ref D) (As.map Value.ref) = some false ∧ mg "ValueError" = none ∧ PySem.W.exmOne K (.ref D) (.ref Ra) = some true ∧ PySem.W.kitOne K (.ref D) (.ref D) = some true
  dic : ∀ x kvs, T.dic.lookup x = some kvs → DicLink w K mg x kvs

theorem env0_len (f : Fn) (ds : List PyData) (h : ds.length = f.np) : (env0 f ds).length = f.np + (f.N.length - f.np) := by
  unfold env0
  rw [List.length_append, List.length_map, List.length_replicate, h]
section
variable {P : Program} {w : World} {K : PySem.W.Frag} {mg : PySem.Str → Option Value} {base : Heap} {T : Txt}
theorem startSim {K : PySem.W.Frag} {B H : Hp} {f : Fn} {vs : List V} {ds : List PyData} (s : Same B H) (r : Reps K B vs ds) (hn : ds.length = f.np) : Sim K H B [] B H (L2.start f.N vs) (env0 f ds) := by
  have hl := r.length
  have get1 : ∀ i, i < ds.length → (env0 f ds)[i]? = (ds[i]?).map .val := fun i hi => by
    unfold env0
    rw [List.getElem?_append_left (by rw [List.length_map]; exact hi), List.getElem?_map]
  have get2 : ∀ i, ds.length ≤ i → ∀ sl, (env0 f ds)[i]? = some sl → sl = .und := fun i hi sl h => by
    unfold env0 at h
    rw [List.getElem?_append_right (by rw [List.length_map]; exact hi)] at h
    rw [List.getElem?_replicate] at h
    split at h <;> cases h
    rfl
  have noown : ∀ (i : Nat) (xs : Cn), (env0 f ds)[i]? ≠ some (Slot.ob xs) := fun i xs h => by
    rcases Nat.lt_or_ge i ds.length with q | q
    · rw [get1 i q, List.getElem?_eq_getElem q] at h; cases h
    · cases get2 i q _ h
  refine ⟨⟨s, Same.refl H, Same.refl B, fun a o e => .inl e, fun p hp => (by cases hp), List.nodup_nil⟩, ?_, fun i sl h => ?_, fun i j p xs ys h => (noown i xs h).elim, fun p hp => (by cases hp)⟩
  · rw [env0_len f ds hn]
    unfold L2.start
    rw [List.length_append, List.length_map, List.length_replicate, hl, hn]
  · rcases Nat.lt_or_ge i ds.length with q | q
    · rw [get1 i q] at h
      cases e : ds[i]? with
      | none => rw [e] at h; cases h
      | some d =>
        rw [e] at h; cases h
        obtain ⟨v, hv, rv⟩ := r.get e
        refine ⟨some v, ?_, v, rfl, rv⟩
        unfold L2.start
        rw [List.getElem?_append_left (by rw [List.length_map, hl]; exact q), List.getElem?_map, hv]
        rfl
    · have e := get2 i q sl h
      subst e
      have hi : i < (env0 f ds).length := by
        rcases Nat.lt_or_ge i (env0 f ds).length with z | z
        · exact z
        · rw [List.getElem?_eq_none z] at h; cases h
      have hs : i < (L2.start f.N vs).length := by
        unfold L2.start
        rw [env0_len f ds hn] at hi
        rw [List.length_append, List.length_map, List.length_replicate, hl, hn]
        exact hi
      exact ⟨(L2.start f.N vs)[i], List.getElem?_eq_getElem hs, trivial⟩
/-- one def, over what stands a level lower -/
theorem snd_body (L : TxtLink w K mg T) {n : Nat} (ih : ∀ (x : PySem.Str) (np : Nat) (cf : CF), callAt T n x = some (np, cf) →
    ∃ (f : Addr) (fd : FuncData) (ps : List PySem.Str), FnOk P w K mg base (L2.CX P w) n f fd ps (spD K mg np cf) ∧ mg x = some (.ref f) ∧ PySem.W.keepIn K (.ref f) = true ∧ Binds K fd ps [])
    (ihF : ∀ (x : PySem.Str) (np : Nat) (cf : CFF), callAtF T n x = some (np, cf) →
    ∃ (f : Addr) (fd : FuncData) (ps : List PySem.Str), FnOk P w K mg base (L2.CX P w) n f fd ps (spF K np cf) ∧ mg x = some (.ref f) ∧ PySem.W.keepIn K (.ref f) = true ∧ Binds K fd ps [])
    {x : PySem.Str} {fn : Fn} {st : Stmt} {f : Addr} {fd : FuncData} {ps : List PySem.Str} (F : Fun K x x st f fd) (S : FnScope fn.N ps (defScope st)) (hps : ps.length = fn.np) (hc : chkSs fn.N (defScope st) fn.body (defBody st) = true) :
    FnOk P w K mg base (L2.CX P w) (n + 1) f fd ps (spD K mg fn.np (runFn (prgAt T n) fn)) := by
  refine F.okX S (fun vs H Q E q => by rw [hps]; exact q.1) (fun cdv A outer s H vs Q E hr hsp => ?_)
  obtain ⟨hlen, B, ds, r, sB, rs, hcf, post⟩ := hsp
  have G : GS (prgAt T n) n fn.N (defScope st) (cxOf (L2.CX P w) P w K mg base fn.N x (defScope st) f cdv A outer s H E) (fun cls d _ H => E cls d H) := {
    g := {
      hN := rfl
      hsc := rfl
      nd := S.nd
      knd := S.kind
      tk := takes_of rfl rfl rfl rfl
      un := by have := hr.un; show (A.deeper _).units + 65 < cLine; omega
      calm := rfl
      room := hr
      call := fun y np' cf' hy => ⟨ih y np' cf' hy⟩
      con := fun y d hy => L.con y d hy
      free := L.free
      exc := fun c hx => by
        have hx' : T.exc.contains c = true := hx
        obtain ⟨C, e1, e2, e3, e4, e5⟩ := L.exc c (by simpa using hx')
        exact ⟨C, e1, e2, e3, raises_own e4 e5⟩
      tri := fun c R cs hx => by
        have hx' : T.tri.contains (c, R, cs) = true := hx
        exact L.tri (c, R, cs) (by simpa using hx')
      dic := fun y kvs hy => L.dic y kvs hy
      callF := fun y np' cf' hy => ⟨ihF y np' cf' hy⟩ }
    po := passes_of rfl
    fnAll := fun _ => rfl
    st := rfl
    fr := rfl }
  refine ⟨_, sndSs fn.body (defBody st) hc G, ?_⟩
  have hn : ds.length = fn.np := by rw [← rs.length]; exact hlen
  have hcf' : outOf (evSs (prgAt T n) fn.body (env0 fn ds)) = some r := by
    have : (if ds.length = fn.np then outOf (evSs (prgAt T n) fn.body (env0 fn ds)) else none) = some r := hcf
    rw [if_pos hn] at this
    exact this
  cases he : evSs (prgAt T n) fn.body (env0 fn ds) with
  | none => rw [he] at hcf'; cases hcf'
  | some so =>
    rw [he] at hcf'
    refine ⟨H, B, [], B, _, so, startSim sB rs hn, he, ?_⟩
    cases so with
    | nx e =>
      cases hcf'
      exact fun σ' H' B' s' S' => post .non H' B' S'.h.old s' S'.h.sub S'.h.new .non
    | ret d =>
      cases hcf'
      exact fun v H' B' s' S' r => post v H' B' S'.old s' S'.sub S'.new r
    | exc c e =>
      cases hcf'
      exact fun σ' H' B' a s' S' hm => post H' a S'.h.old hm
    | brk e => cases hcf'
    | cnt e => cases hcf'
/-- one def whose result is new, over what stands a level lower -/
theorem snd_bodyF (L : TxtLink w K mg T) {n : Nat} (ih : ∀ (x : PySem.Str) (np : Nat) (cf : CF), callAt T n x = some (np, cf) →
    ∃ (f : Addr) (fd : FuncData) (ps : List PySem.Str), FnOk P w K mg base (L2.CX P w) n f fd ps (spD K mg np cf) ∧ mg x = some (.ref f) ∧ PySem.W.keepIn K (.ref f) = true ∧ Binds K fd ps [])
    (ihF : ∀ (x : PySem.Str) (np : Nat) (cf : CFF), callAtF T n x = some (np, cf) →
    ∃ (f : Addr) (fd : FuncData) (ps : List PySem.Str), FnOk P w K mg base (L2.CX P w) n f fd ps (spF K np cf) ∧ mg x = some (.ref f) ∧ PySem.W.keepIn K (.ref f) = true ∧ Binds K fd ps [])
    {x : PySem.Str} {fn : Fn} {st : Stmt} {f : Addr} {fd : FuncData} {ps : List PySem.Str} (F : Fun K x x st f fd) (S : FnScope fn.N ps (defScope st)) (hps : ps.length = fn.np) (hc : chkSs fn.N (defScope st) fn.body (defBody st) = true) :
    FnOk P w K mg base (L2.CX P w) (n + 1) f fd ps (spF K fn.np (runFnF (prgAt T n) fn)) := by
  refine F.okX S (fun vs H Q E q => by rw [hps]; exact q.1) (fun cdv A outer s H vs Q E hr hsp => ?_)
  obtain ⟨hlen, B, ds, r, sB, rs, hcf, post⟩ := hsp
  have G : GS (prgAt T n) n fn.N (defScope st) (cxOf (L2.CX P w) P w K mg base fn.N x (defScope st) f cdv A outer s H E) (fun cls d _ H => E cls d H) := {
    g := {
      hN := rfl
      hsc := rfl
      nd := S.nd
      knd := S.kind
      tk := takes_of rfl rfl rfl rfl
      un := by have := hr.un; show (A.deeper _).units + 65 < cLine; omega
      calm := rfl
      room := hr
      call := fun y np' cf' hy => ⟨ih y np' cf' hy⟩
      con := fun y d hy => L.con y d hy
      free := L.free
      exc := fun c hx => by
        have hx' : T.exc.contains c = true := hx
        obtain ⟨C, e1, e2, e3, e4, e5⟩ := L.exc c (by simpa using hx')
        exact ⟨C, e1, e2, e3, raises_own e4 e5⟩
      tri := fun c R cs hx => by
        have hx' : T.tri.contains (c, R, cs) = true := hx
        exact L.tri (c, R, cs) (by simpa using hx')
      dic := fun y kvs hy => L.dic y kvs hy
      callF := fun y np' cf' hy => ⟨ihF y np' cf' hy⟩ }
    po := passes_of rfl
    fnAll := fun _ => rfl
    st := rfl
    fr := rfl }
  refine ⟨_, sndF fn.body (defBody st) hc G, ?_⟩
  have hn : ds.length = fn.np := by rw [← rs.length]; exact hlen
  have hcf' : freshSs (prgAt T n) fn.body (env0 fn ds) = some r := by
    have : (if ds.length = fn.np then freshSs (prgAt T n) fn.body (env0 fn ds) else none) = some r := hcf
    rw [if_pos hn] at this
    exact this
  refine ⟨H, B, [], B, _, r, startSim sB rs hn, hcf', fun p u H' B' s' hs rc => ?_⟩
  obtain ⟨h1, h2, h3⟩ := hs.kept (p, u) List.mem_cons_self
  exact post p u H' B' hs.old s' hs.sub hs.new h1 h2 h3 rc
/-- every def of the text does what the evaluator says -/
theorem snd_fns (L : TxtLink w K mg T) : ∀ (n : Nat), (∀ (x : PySem.Str) (np : Nat) (cf : CF), callAt T n x = some (np, cf) →
    ∃ (f : Addr) (fd : FuncData) (ps : List PySem.Str), FnOk P w K mg base (L2.CX P w) n f fd ps (spD K mg np cf) ∧ mg x = some (.ref f) ∧ PySem.W.keepIn K (.ref f) = true ∧ Binds K fd ps []) ∧
    ∀ (x : PySem.Str) (np : Nat) (cf : CFF), callAtF T n x = some (np, cf) →
    ∃ (f : Addr) (fd : FuncData) (ps : List PySem.Str), FnOk P w K mg base (L2.CX P w) n f fd ps (spF K np cf) ∧ mg x = some (.ref f) ∧ PySem.W.keepIn K (.ref f) = true ∧ Binds K fd ps []
  | 0 => ⟨(fun x np cf h => nomatch h), (fun x np cf h => nomatch h)⟩
  | n + 1 => by
    obtain ⟨ih, ihF⟩ := snd_fns L n
    refine ⟨fun x np cf h => ?_, fun x np cf h => ?_⟩
    · have h' : (match T.fns.lookup x with | some f => some (f.np, runFn (prgAt T n) f) | none => none) = some (np, cf) := h
      cases hf : T.fns.lookup x with
      | none => rw [hf] at h'; cases h'
      | some fn =>
        rw [hf] at h'
        cases h'
        obtain ⟨st, f, fd, ps, F, S, hps, hc, hm, hb⟩ := (L.fns x fn hf).ex
        exact ⟨f, fd, ps, snd_body L ih ihF F S hps hc, hm, F.kp, hb⟩
    · have h' : (match T.fns.lookup x with | some f => some (f.np, runFnF (prgAt T n) f) | none => none) = some (np, cf) := h
      cases hf : T.fns.lookup x with
      | none => rw [hf] at h'; cases h'
      | some fn =>
        rw [hf] at h'
        cases h'
        obtain ⟨st, f, fd, ps, F, S, hps, hc, hm, hb⟩ := (L.fns x fn hf).ex
        exact ⟨f, fd, ps, snd_bodyF L ih ihF F S hps hc, hm, F.kp, hb⟩
theorem snd_fn (L : TxtLink w K mg T) (n : Nat) (x : PySem.Str) (np : Nat) (cf : CF) (h : callAt T n x = some (np, cf)) :
    ∃ (f : Addr) (fd : FuncData) (ps : List PySem.Str), FnOk P w K mg base (L2.CX P w) n f fd ps (spD K mg np cf) ∧ mg x = some (.ref f) ∧ PySem.W.keepIn K (.ref f) = true ∧ Binds K fd ps [] := (snd_fns L n).1 x np cf h
/-- the script's ints -/
abbrev scr (ns : List Int) : PyData := .list (ns.map .int)
def spL (K : PySem.W.Frag) : Sp := fun vs H Q _ => ∃ (a : Addr) (ns : List Int), vs = [.ref a] ∧ SqL K H a (ns.map V.int) ∧ ns.length ≤ 63 ∧ (∀ z ∈ ns, Builtin.Int.intBits z ≤ 1048576) ∧ ∀ H', Q (.bl true) H'
theorem law_fn (L : TxtLink w K mg T) {n : Nat} {fn : Fn} {st : Stmt} {f : Addr} {fd : FuncData} {ps : List PySem.Str} (F : Fun K "law" "law" st f fd) (S : FnScope fn.N ps (defScope st)) (hps : ps.length = fn.np) (h1 : fn.np = 1) (hc : chkSs fn.N (defScope st) fn.body (defBody st) = true)
    (hlaw : ∀ ns : List Int, ns.length ≤ 63 → (∀ z ∈ ns, Builtin.Int.intBits z ≤ 1048576) → runFn (prgAt T n) fn [scr ns] = some (.ret (.bool true))) :
    FnOk P w K mg base (L2.CX P w) (n + 1) f fd ps (spL K) := by
  refine (snd_body (P := P) (w := w) (base := base) L (snd_fns L n).1 (snd_fns L n).2 F S hps hc).imp fun vs H Q E h => ?_
  obtain ⟨a, ns, rfl, hs, k1, k2, q⟩ := h
  refine ⟨h1.symm, H, [scr ns], _, Same.refl H, .cons (.lst hs (reps_ints ns)) .nil, hlaw ns k1 k2, fun v H' B' _ _ _ _ r => ?_⟩
  cases r
  exact q H'
end
theorem lookup_cases {α : Type} {x k : PySem.Str} {v d : α} {r : List (PySem.Str × α)} (h : List.lookup x ((k, v) :: r) = some d) : (x = k ∧ v = d) ∨ List.lookup x r = some d := by
  rw [List.lookup_cons] at h
  split at h
  · rename_i e
    exact .inl ⟨beq_iff_eq.mp e, Option.some.inj h⟩
  · exact .inr h
theorem cx_none {P : Program} {w : World} {H : Hp} {s : Shared} {e : Value} {s' : Shared} (h : L2.CX P w [] H s (fun _ _ _ => False) e s') : False := by
  obtain ⟨_, _, _, _, _, _, _, _, _, _, _, _, z⟩ := h
  exact z.elim
/-! ### isinstance of exceptions, from what k_is answers -/
theorem kit_refT {K : PySem.W.Frag} {D R : Addr} (h1 : PySem.W.hasDictIn K R = true) (h2 : PySem.W.typeIn K (.ref R) = some (.type "type")) (h3 : PySem.W.subIn K (.ref D) (.ref R) = some true) : PySem.W.kitOne K (.ref D) (.ref R) = some true := by
  obtain ⟨cd, hc, _⟩ := PySem.W.any_some h1
  have e2 : ((PySem.W.clsIn K R).isSome && PySem.W.typeIn K (.ref R) == some (.type "type")) = true := by rw [hc, h2] <;> rfl
  unfold PySem.W.kitOne
  split
  · rfl
  · show (if _ then _ else _) = _
    rw [if_pos e2]; exact h3
theorem kit_refF {K : PySem.W.Frag} {D R : Addr} (h1 : PySem.W.hasDictIn K R = true) (h2 : PySem.W.typeIn K (.ref R) = some (.type "type")) (h3 : PySem.W.subIn K (.ref D) (.ref R) = some false) (h4 : PySem.W.subIn K (.ref D) (.ref D) = some true) : PySem.W.kitOne K (.ref D) (.ref R) = some false := by
  obtain ⟨cd, hc, _⟩ := PySem.W.any_some h1
  have e2 : ((PySem.W.clsIn K R).isSome && PySem.W.typeIn K (.ref R) == some (.type "type")) = true := by rw [hc, h2] <;> rfl
  have ne : ¬ (Value.ref D == Value.ref R) = true := by
    intro h
    have : D = R := by simpa using h
    subst this
    rw [h3] at h4
    cases h4
  unfold PySem.W.kitOne
  rw [if_neg ne]
  show (if _ then _ else _) = _
  rw [if_pos e2]; exact h3
theorem kit_ve {K : PySem.W.Frag} {D : Addr} (h : PySem.W.subIn K (.ref D) (.type "ValueError") = some true) : PySem.W.kitOne K (.ref D) (.type "ValueError") = some true := by
  unfold PySem.W.kitOne
  split
  · rfl
  · show (if PySem.W.kitMeta "ValueError" = true then PySem.W.subIn K (.ref D) (.type "ValueError") else none) = _
    rw [if_pos (by decide +kernel)]; exact h
theorem kit_nil {K : PySem.W.Frag} {t : Value} : PySem.W.kitAny K t [] = some false := rfl
theorem kit_cons {K : PySem.W.Frag} {t c : Value} {r : List Value} (h : PySem.W.kitOne K t c = some false) (hr : PySem.W.kitAny K t r = some false) : PySem.W.kitAny K t (c :: r) = some false := by
  show (match PySem.W.kitOne K t c with | some true => some true | some false => PySem.W.kitAny K t r | none => none) = _
  rw [h]; exact hr
end PyI

namespace PyI
open PySem PySem.Spec L2
/-! ## running the evaluator: equations for simp -/
section
variable {P : Prg}
@[simp] theorem oE_cst {c} {g : M (PyData × Bool)} : oE (.cst c) g = op1 (fz g) := id rfl
@[simp] theorem oE_glob {x} {g : M (PyData × Bool)} : oE (.glob x) g = op1 (fz g) := id rfl
@[simp] theorem oE_tup {es} {g : M (PyData × Bool)} : oE (.tup es) g = op1 (fz g) := id rfl
@[simp] theorem oE_lst {es} {g : M (PyData × Bool)} : oE (.lst es) g = op1 (fz g) := id rfl
@[simp] theorem oE_bin {o a b} {g : M (PyData × Bool)} : oE (.bin o a b) g = op1 (fz g) := id rfl
@[simp] theorem oE_neg {a} {g : M (PyData × Bool)} : oE (.neg a) g = op1 (fz g) := id rfl
@[simp] theorem oE_cmp {o a b} {g : M (PyData × Bool)} : oE (.cmp o a b) g = op1 (fz g) := id rfl
@[simp] theorem oE_chain {o p a b c} {g : M (PyData × Bool)} : oE (.chain o p a b c) g = op1 (fz g) := id rfl
@[simp] theorem oE_not {a} {g : M (PyData × Bool)} : oE (.not a) g = op1 (fz g) := id rfl
@[simp] theorem oE_and {es} {g : M (PyData × Bool)} : oE (.and es) g = op1 (fz g) := id rfl
@[simp] theorem oE_or {es} {g : M (PyData × Bool)} : oE (.or es) g = op1 (fz g) := id rfl
@[simp] theorem oE_ife {t a b} {g : M (PyData × Bool)} : oE (.ife t a b) g = op1 (fz g) := id rfl
@[simp] theorem oE_ix {a b} {g : M (PyData × Bool)} : oE (.ix a b) g = op1 (fz g) := id rfl
@[simp] theorem oE_sl {a lo hi} {g : M (PyData × Bool)} : oE (.sl a lo hi) g = op1 (fz g) := id rfl
@[simp] theorem oE_call {x es} {g : M (PyData × Bool)} : oE (.call x es) g = op1 (fz g) := id rfl
@[simp] theorem oE_blt {b es} {g : M (PyData × Bool)} : oE (.blt b es) g = op1 (fz g) := id rfl
@[simp] theorem oE_isi {T a} {g : M (PyData × Bool)} : oE (.isi T a) g = op1 (fz g) := id rfl
@[simp] theorem oE_pop {i} {g : M (PyData × Bool)} : oE (.pop i) g = op1 (fz g) := id rfl
@[simp] theorem oE_popAt {i a} {g : M (PyData × Bool)} : oE (.popAt i a) g = op1 (fz g) := id rfl
@[simp] theorem oE_app {i a} {g : M (PyData × Bool)} : oE (.app i a) g = op1 (fz g) := id rfl
@[simp] theorem oE_callk {f es} {g : M (PyData × Bool)} : oE (.callk f es) g = op1 (fz g) := id rfl
@[simp] theorem oE_callf {f es} {g : M (PyData × Bool)} : oE (.callf f es) g = op1 (fz g) := id rfl
@[simp] theorem oE_sset {a} {g : M (PyData × Bool)} : oE (.sset a) g = op1 (fz g) := id rfl
@[simp] theorem oE_sortE {a} {g : M (PyData × Bool)} : oE (.sortE a) g = op1 (fz g) := id rfl
@[simp] theorem oE_dnew {g : M (PyData × Bool)} : oE .dnew g = op1 (fz g) := id rfl
@[simp] theorem oE_disp {k v} {g : M (PyData × Bool)} : oE (.disp k v) g = op1 (fz g) := id rfl
@[simp] theorem oE_tidx {o k} {g : M (PyData × Bool)} : oE (.tidx o k) g = op1 (fz g) := id rfl
@[simp] theorem oE_rg1 {t a} {g : M (PyData × Bool)} : oE (.rg1 t a) g = op1 (fz g) := id rfl
@[simp] theorem oE_rg2 {t a b} {g : M (PyData × Bool)} : oE (.rg2 t a b) g = op1 (fz g) := id rfl
@[simp] theorem oE_rvl {a} {g : M (PyData × Bool)} : oE (.rvl a) g = op1 (fz g) := id rfl
@[simp] theorem oE_lzip {a b} {g : M (PyData × Bool)} : oE (.lzip a b) g = op1 (fz g) := id rfl
@[simp] theorem oE_compI {ow tg i ifs elt} {g : M (PyData × Bool)} : oE (.compI ow tg i ifs elt) g = op1 (fz g) := id rfl
@[simp] theorem oE_bitlen {i} {g : M (PyData × Bool)} : oE (.bitlen i) g = op1 (fz g) := id rfl
@[simp] theorem oE_dget {o k v} {g : M (PyData × Bool)} : oE (.dget o k v) g = op1 (fz g) := id rfl
@[simp] theorem oE_kget {x a k} {g : M (PyData × Bool)} : oE (.kget x a k) g = op1 (fz g) := id rfl
@[simp] theorem oE_ext {i a} {g : M (PyData × Bool)} : oE (.ext i a) g = op1 (fz g) := id rfl
@[simp] theorem oE_comp2 {ow tg it vs1 tg1 it1 ifs elt} {g : M (PyData × Bool)} : oE (.comp2 ow tg it vs1 tg1 it1 ifs elt) g = op1 (fz g) := id rfl
@[simp] theorem oE_dcomp {ow tg it k v} {g : M (PyData × Bool)} : oE (.dcomp ow tg it k v) g = op1 (fz g) := id rfl
@[simp] theorem oE_comp {ow tg it ifs elt} {g : M (PyData × Bool)} : oE (.comp ow tg it ifs elt) g = op1 (fz g) := id rfl
@[simp] theorem oE_var {i : Nat} {f : M (PyData × Bool)} : oE (.var i) f = oVar i := id rfl
@[simp] theorem e_var {i : Nat} : (ev P (.var i)).e = unfz (fVar i) := by rw [ev]; rfl
@[simp] theorem t_var {i : Nat} : (ev P (.var i)).t = fTru (oVar i) := by rw [ev]; rfl
@[simp] theorem e_cint {i} : (ev P (.cst (.int i))).e = unfz (fCst (.int i)) := by rw [ev]; rfl
@[simp] theorem e_cbool {b} : (ev P (.cst (.bool b))).e = unfz (fCst (.bool b)) := by rw [ev]; rfl
@[simp] theorem e_cstr {x} : (ev P (.cst (.str x))).e = unfz (fCst (.str x)) := by rw [ev]; rfl
@[simp] theorem e_cnone : (ev P (.cst .none)).e = unfz (fCst .none) := by rw [ev]; rfl
theorem t_cst {c} : (ev P (.cst c)).t = fTru (op1 (fz (ev P (.cst c)).e)) := by rw [ev]; rfl
@[simp] theorem e_glob {x} : (ev P (.glob x)).e = (match P.con x with | some d => unfz (fCst d) | none => mFail) := by rw [ev]; rfl
@[simp] theorem t_glob {x} : (ev P (.glob x)).t = fTru (op1 (fz (ev P (.glob x)).e)) := by rw [ev]; rfl
@[simp] theorem e_tup {es} : (ev P (.tup es)).e = fTup (evL P es).v := by rw [ev]; rfl
@[simp] theorem t_tup {es} : (ev P (.tup es)).t = fTru (op1 (fz (ev P (.tup es)).e)) := by rw [ev]; rfl
@[simp] theorem e_lst {es} : (ev P (.lst es)).e = fLst (evL P es).v := by rw [ev]; rfl
@[simp] theorem t_lst {es} : (ev P (.lst es)).t = fTru (op1 (fz (ev P (.lst es)).e)) := by rw [ev]; rfl
@[simp] theorem e_bin {o a b} : (ev P (.bin o a b)).e = fBin (binD o) (oE a (ev P a).e) (oE b (ev P b).e) := by rw [ev]; rfl
@[simp] theorem t_bin {o a b} : (ev P (.bin o a b)).t = fTru (op1 (fz (ev P (.bin o a b)).e)) := by rw [ev]; rfl
@[simp] theorem e_neg {a} : (ev P (.neg a)).e = fUn negD (oE a (ev P a).e) := by rw [ev]; rfl
@[simp] theorem t_neg {a} : (ev P (.neg a)).t = fTru (op1 (fz (ev P (.neg a)).e)) := by rw [ev]; rfl
@[simp] theorem e_cmp {o a b} : (ev P (.cmp o a b)).e = fBin (cmpD o) (oE a (ev P a).e) (oE b (ev P b).e) := by rw [ev]; rfl
@[simp] theorem t_cmp {o a b} : (ev P (.cmp o a b)).t = fTst (fBin (cmpD o) (oE a (ev P a).e) (oE b (ev P b).e)) := by rw [ev]; rfl
@[simp] theorem e_chain {o p a b c} : (ev P (.chain o p a b c)).e = fChain (cmpD o) (cmpD p) (oE a (ev P a).e) (oE b (ev P b).e) (oE c (ev P c).e) := by rw [ev]; rfl
@[simp] theorem t_chain {o p a b c} : (ev P (.chain o p a b c)).t = fTst (fChain (cmpD o) (cmpD p) (oE a (ev P a).e) (oE b (ev P b).e) (oE c (ev P c).e)) := by rw [ev]; rfl
@[simp] theorem e_not {a} : (ev P (.not a)).e = unfz (vNot (fz (ev P a).e)) := by rw [ev]
@[simp] theorem t_not {a} : (ev P (.not a)).t = mNot (ev P a).t := by rw [ev]
@[simp] theorem e_and {es} : (ev P (.and es)).e = unfz (evL P es).andV := by rw [ev]
@[simp] theorem t_and {es} : (ev P (.and es)).t = (evL P es).andT := by rw [ev]
@[simp] theorem e_or {es} : (ev P (.or es)).e = unfz (evL P es).orV := by rw [ev]
@[simp] theorem t_or {es} : (ev P (.or es)).t = (evL P es).orT := by rw [ev]
@[simp] theorem e_ife {t a b} : (ev P (.ife t a b)).e = fIf (ev P t).t (ev P a).e (ev P b).e := by rw [ev]
@[simp] theorem t_ife {t a b} : (ev P (.ife t a b)).t = fIfT (ev P t).t (ev P a).t (ev P b).t := by rw [ev]
@[simp] theorem e_ix {a b} : (ev P (.ix a b)).e = fBin ixD (oE a (ev P a).e) (oE b (ev P b).e) := by rw [ev]; rfl
@[simp] theorem t_ix {a b} : (ev P (.ix a b)).t = fTru (op1 (fz (ev P (.ix a b)).e)) := by rw [ev]; rfl
@[simp] theorem e_sl {a lo hi} : (ev P (.sl a lo hi)).e = fSl (oE a (ev P a).e) (evP P lo) (evP P hi) := by rw [ev]; rfl
@[simp] theorem t_sl {a lo hi} : (ev P (.sl a lo hi)).t = fTru (op1 (fz (ev P (.sl a lo hi)).e)) := by rw [ev]; rfl
@[simp] theorem e_call {x es} : (ev P (.call x es)).e = (match P.call x with | some (np, cf) => fCall np cf (evL P es).a | none => mFail) := by rw [ev]; rfl
@[simp] theorem t_call {x es} : (ev P (.call x es)).t = fTru (op1 (fz (ev P (.call x es)).e)) := by rw [ev]; rfl
@[simp] theorem e_blt {b es} : (ev P (.blt b es)).e = fBlt b.run (evL P es).a := by rw [ev]; rfl
@[simp] theorem t_blt {b es} : (ev P (.blt b es)).t = fTru (op1 (fz (ev P (.blt b es)).e)) := by rw [ev]; rfl
@[simp] theorem e_isi {T a} : (ev P (.isi T a)).e = fIsi (oE a (ev P a).e) T := by rw [ev]; rfl
@[simp] theorem t_isi {T a} : (ev P (.isi T a)).t = fTru (op1 (fz (ev P (.isi T a)).e)) := by rw [ev]; rfl
@[simp] theorem e_pop {i} : (ev P (.pop i)).e = unfz (fPop i) := by rw [ev]; rfl
@[simp] theorem t_pop {i} : (ev P (.pop i)).t = fTru (op1 (fz (ev P (.pop i)).e)) := by rw [ev]; rfl
@[simp] theorem e_popAt {i a} : (ev P (.popAt i a)).e = unfz (fPopAt i (fz (ev P a).e)) := by rw [ev]; rfl
@[simp] theorem t_popAt {i a} : (ev P (.popAt i a)).t = fTru (op1 (fz (ev P (.popAt i a)).e)) := by rw [ev]; rfl
@[simp] theorem e_app {i a} : (ev P (.app i a)).e = unfz (fApp i (fz (ev P a).e)) := by rw [ev]; rfl
@[simp] theorem t_app {i a} : (ev P (.app i a)).t = fTru (op1 (fz (ev P (.app i a)).e)) := by rw [ev]; rfl
@[simp] theorem e_callk {f es} : (ev P (.callk f es)).e = match P.call f with | some (np, cf) => fCallK np cf (evL P es).a | none => mFail := by rw [ev]; rfl
@[simp] theorem t_callk {f es} : (ev P (.callk f es)).t = fTru (op1 (fz (ev P (.callk f es)).e)) := by rw [ev]; rfl
@[simp] theorem e_callf {f es} : (ev P (.callf f es)).e = match P.callF f with | some (np, cf) => fCallF np cf (evL P es).a | none => mFail := by rw [ev]; rfl
@[simp] theorem t_callf {f es} : (ev P (.callf f es)).t = fTru (op1 (fz (ev P (.callf f es)).e)) := by rw [ev]; rfl
@[simp] theorem e_sset {a} : (ev P (.sset a)).e = fBlt ssetE (aCons (oE a (ev P a).e) aNil) := by rw [ev]; rfl
@[simp] theorem t_sset {a} : (ev P (.sset a)).t = fTru (op1 (fz (ev P (.sset a)).e)) := by rw [ev]; rfl
@[simp] theorem e_sortE {a} : (ev P (.sortE a)).e = fBlt sortedE (aCons (oE a (ev P a).e) aNil) := by rw [ev]; rfl
@[simp] theorem t_sortE {a} : (ev P (.sortE a)).t = fTru (op1 (fz (ev P (.sortE a)).e)) := by rw [ev]; rfl
@[simp] theorem e_kget {x a k} : (ev P (.kget x a k)).e = match P.dic x with | some kvs => unfz (fKget kvs (fz (ev P a).e) k) | none => mFail := by rw [ev]; rfl
@[simp] theorem t_kget {x a k} : (ev P (.kget x a k)).t = fTru (op1 (fz (ev P (.kget x a k)).e)) := by rw [ev]; rfl
@[simp] theorem e_ext {i a} : (ev P (.ext i a)).e = unfz (fExt i (oE a (ev P a).e)) := by rw [ev]; rfl
@[simp] theorem t_ext {i a} : (ev P (.ext i a)).t = fTru (op1 (fz (ev P (.ext i a)).e)) := by rw [ev]; rfl
@[simp] theorem e_comp2 {ow tg it vs1 tg1 it1 ifs elt} : (ev P (.comp2 ow tg it vs1 tg1 it1 ifs elt)).e = fComp2 (evI P it) (tgF tg) (evI P it1) (tgF tg1) (evL P ifs).one (fz (ev P elt).e) (ow.map (·.2)) vs1 := by rw [ev]; rfl
@[simp] theorem e_dcomp {ow tg it k v} : (ev P (.dcomp ow tg it k v)).e = fDcomp (evI P it) (tgF tg) (fz (ev P k).e) (fz (ev P v).e) (ow.map (·.2)) := by rw [ev]; rfl
@[simp] theorem e_comp {ow tg it ifs elt} : (ev P (.comp ow tg it ifs elt)).e = fComp (evI P it) (tgF tg) (evL P ifs).one (fz (ev P elt).e) (ow.map (·.2)) := by rw [ev]; rfl
@[simp] theorem t_comp {ow tg it ifs elt} : (ev P (.comp ow tg it ifs elt)).t = fTru (op1 (fz (ev P (.comp ow tg it ifs elt)).e)) := by rw [ev]; rfl
@[simp] theorem e_dnew : (ev P .dnew).e = fDnew := by rw [ev]; rfl
@[simp] theorem t_dnew : (ev P .dnew).t = fTru (op1 (fz (ev P .dnew).e)) := by rw [ev]; rfl
@[simp] theorem e_disp {k v} : (ev P (.disp k v)).e = fDisp1 (fz (ev P k).e) (fz (ev P v).e) := by rw [ev]; rfl
@[simp] theorem t_disp {k v} : (ev P (.disp k v)).t = fTru (op1 (fz (ev P (.disp k v)).e)) := by rw [ev]; rfl
@[simp] theorem e_tidx {o k} : (ev P (.tidx o k)).e = unfz (fTidx (oE o (ev P o).e) (fz (ev P k).e)) := by (conv => lhs; rw [ev]); rfl
@[simp] theorem t_tidx {o k} : (ev P (.tidx o k)).t = fTru (op1 (fz (ev P (.tidx o k)).e)) := by rw [ev]; rfl
@[simp] theorem e_rg1 {t a} : (ev P (.rg1 t a)).e = fUn (rg1O t) (oE a (ev P a).e) := by rw [ev]; rfl
@[simp] theorem t_rg1 {t a} : (ev P (.rg1 t a)).t = fTru (op1 (fz (ev P (.rg1 t a)).e)) := by rw [ev]; rfl
@[simp] theorem e_rg2 {t a b} : (ev P (.rg2 t a b)).e = fBin (rgO t) (oE a (ev P a).e) (oE b (ev P b).e) := by rw [ev]; rfl
@[simp] theorem t_rg2 {t a b} : (ev P (.rg2 t a b)).t = fTru (op1 (fz (ev P (.rg2 t a b)).e)) := by rw [ev]; rfl
@[simp] theorem e_rvl {a} : (ev P (.rvl a)).e = fUn rvO (oE a (ev P a).e) := by rw [ev]; rfl
@[simp] theorem t_rvl {a} : (ev P (.rvl a)).t = fTru (op1 (fz (ev P (.rvl a)).e)) := by rw [ev]; rfl
@[simp] theorem e_lzip {a b} : (ev P (.lzip a b)).e = fLzip (fz (ev P a).e) (fz (ev P b).e) := by rw [ev]; rfl
@[simp] theorem t_lzip {a b} : (ev P (.lzip a b)).t = fTru (op1 (fz (ev P (.lzip a b)).e)) := by rw [ev]; rfl
@[simp] theorem e_compI {ow tg i ifs elt} : (ev P (.compI ow tg i ifs elt)).e = fCompI i (tgF tg) (evL P ifs).one (fz (ev P elt).e) (ow.map (·.2)) := by rw [ev]; rfl
@[simp] theorem e_bitlen {i} : (ev P (.bitlen i)).e = unfz (fBits (fVar i)) := by rw [ev]; rfl
@[simp] theorem t_bitlen {i} : (ev P (.bitlen i)).t = fTru (op1 (fz (ev P (.bitlen i)).e)) := by rw [ev]; rfl
@[simp] theorem fBits_ap {f : M PyData} {env : Ev} : fBits f env = bnd (f env) fun d e => match d with | .int i => some (.ok (.int (Builtin.Int.intBits i : Nat)) e) | _ => none := id rfl
@[simp] theorem fLzip_ap {f g : M PyData} {env : Ev} : fLzip f g env = bnd (f env) fun d e => bnd (g e) fun d' e' => match d, d' with | .list xs, .list ys => some (.ok (.list (zipF xs ys), true) e') | _, _ => none := id rfl
@[simp] theorem e_dget {o k v} : (ev P (.dget o k v)).e = unfz (fDget2 (oE o (ev P o).e) (fz (ev P k).e) (fz (ev P v).e)) := by (conv => lhs; rw [ev]); rfl
@[simp] theorem t_dget {o k v} : (ev P (.dget o k v)).t = fTru (op1 (fz (ev P (.dget o k v)).e)) := by rw [ev]; rfl
@[simp] theorem L_nil_v : (evL P .nil).v = vNil := by rw [evL]
@[simp] theorem L_nil_a : (evL P .nil).a = aNil := by rw [evL]
@[simp] theorem L_nil_one : (evL P .nil).one = mYes := by rw [evL]
@[simp] theorem L_cons_v {e es} : (evL P (.cons e es)).v = vCons (fz (ev P e).e) (evL P es).v := by rw [evL]
@[simp] theorem L_cons_a {e es} : (evL P (.cons e es)).a = aCons (oE e (ev P e).e) (evL P es).a := by rw [evL]
@[simp] theorem L_one_one {e} : (evL P (.cons e .nil)).one = (ev P e).t := by rw [evL]; rfl
@[simp] theorem L_one_andV {e} : (evL P (.cons e .nil)).andV = fz (ev P e).e := by rw [evL]; rfl
@[simp] theorem L_one_orV {e} : (evL P (.cons e .nil)).orV = fz (ev P e).e := by rw [evL]; rfl
@[simp] theorem L_one_andT {e} : (evL P (.cons e .nil)).andT = (ev P e).t := by rw [evL]; rfl
@[simp] theorem L_one_orT {e} : (evL P (.cons e .nil)).orT = (ev P e).t := by rw [evL]; rfl
@[simp] theorem L_cons_andV {e e' es} : (evL P (.cons e (.cons e' es))).andV = vAnd (fz (ev P e).e) (evL P (.cons e' es)).andV := by rw [evL]; rfl
@[simp] theorem L_cons_orV {e e' es} : (evL P (.cons e (.cons e' es))).orV = vOr (fz (ev P e).e) (evL P (.cons e' es)).orV := by rw [evL]; rfl
@[simp] theorem L_cons_andT {e e' es} : (evL P (.cons e (.cons e' es))).andT = mAnd (ev P e).t (evL P (.cons e' es)).andT := by rw [evL]; rfl
@[simp] theorem L_cons_orT {e e' es} : (evL P (.cons e (.cons e' es))).orT = mOr (ev P e).t (evL P (.cons e' es)).orT := by rw [evL]; rfl
@[simp] theorem P_no : evP P .no = pNo := by rw [evP]
@[simp] theorem P_so {e} : evP P (.so e) = pSo (fz (ev P e).e) := by rw [evP]
@[simp] theorem I_seq {e} : evI P (.seq e) = iSeq (fz (ev P e).e) := by rw [evI]
@[simp] theorem I_rng1 {a env} : evI P (.rng1 a) env = bnd (aCons (oE a (ev P a).e) aNil env) fun os e => if os.length = 1 then iRange (fun e => some (.ok os e)) e else none := by rw [evI]
@[simp] theorem I_rng2 {a b env} : evI P (.rng2 a b) env = bnd (aCons (oE a (ev P a).e) (aCons (oE b (ev P b).e) aNil) env) fun os e => if os.length = 2 then iRange (fun e => some (.ok os e)) e else none := by rw [evI]
@[simp] theorem I_enum {e} : evI P (.enum e) = iEnumD (fz (ev P e).e) := by rw [evI]
@[simp] theorem I_zip {a b} : evI P (.zip a b) = iZipD (fz (ev P a).e) (fz (ev P b).e) := by rw [evI]
@[simp] theorem I_rev {e} : evI P (.rev e) = iRevD (fz (ev P e).e) := by rw [evI]
@[simp] theorem I_revr {e} : evI P (.revr e) = iRevR (fz (ev P e).e) := by rw [evI]
@[simp] theorem S_set {i e} : evS P (.set i e) = sSet i (ev P e).e := by rw [evS]
@[simp] theorem S_tgt {t e} : evS P (.tgt t e) = sTgt (fz (ev P e).e) (tgF t) := by rw [evS]
@[simp] theorem S_aug {i o e} : evS P (.aug i o e) = sAug i o (oE e (ev P e).e) := by rw [evS]
@[simp] theorem S_sub {i k e} : evS P (.sub i k e) = sSub i (fz (ev P k).e) (fz (ev P e).e) := by rw [evS]
@[simp] theorem S_saug {i o k e} : evS P (.saug i o k e) = sSaug i o (fz (ev P k).e) (fz (ev P e).e) := by rw [evS]
@[simp] theorem S_expr {e} : evS P (.expr e) = sExpr (fz (ev P e).e) := by rw [evS]
@[simp] theorem S_ret {e} : evS P (.ret e) = sRet (fz (ev P e).e) := by rw [evS]
@[simp] theorem S_retN : evS P .retN = sRetN := by rw [evS]
@[simp] theorem S_ite {t a b} : evS P (.ite t a b) = sIf (ev P t).t (evSs P a) (evSs P b) := by rw [evS]
@[simp] theorem S_for {t it b} : evS P (.for t it b) = sFor (evI P it) (tgF t) (evSs P b) := by rw [evS]
@[simp] theorem S_forI {i t b} : evS P (.forI i t b) = sForI i (tgF t) (evSs P b) := by rw [evS]
@[simp] theorem S_forO {j t k a b} : evS P (.forO j t k a b) = sForO j (tgF t) (sSub k (fz (ev P a).e) (fz (ev P b).e)) := by rw [evS]
@[simp] theorem S_setDE {i ow tg en j k v} : evS P (.setDE i ow tg en j k v) = sSetDE i en j (tgF tg) (fz (ev P k).e) (fz (ev P v).e) (ow.map (·.2)) := by rw [evS]
@[simp] theorem S_while {t b} : evS P (.while t b) = whileL (ev P t).t (evSs P b) P.fuel := by rw [evS]
@[simp] theorem S_brk : evS P .brk = sBreak := by rw [evS]
@[simp] theorem S_cnt : evS P .cnt = sCont := by rw [evS]
@[simp] theorem S_pass : evS P .pass = sSkip := by rw [evS]
@[simp] theorem S_raise {c} : evS P (.raise c) = if P.exc c = true then sRaise c else fun _ => none := by rw [evS]
@[simp] theorem S_tryo {c R b e} : evS P (.tryo c R b e) = if P.tri c R [] = true then sTryo c (evSs P b) (fz (ev P e).e) else fun _ => none := by rw [evS]
@[simp] theorem S_tryz {k c R cs b} : evS P (.tryz k c R cs b) = if P.tri c R cs = true then sTryz k c (evSs P b) else fun _ => none := by rw [evS]
@[simp] theorem S_tryv {k j c R cs cs' msg b} : evS P (.tryv k j c R cs cs' msg b) = if (P.tri c R cs && P.tri c R cs') = true then sTryv k j c msg (evSs P b) else fun _ => none := by rw [evS]
@[simp] theorem S_tryx {i j k c R cs e} : evS P (.tryx i j k c R cs e) = if P.tri c R cs = true then sTryx i j k c (ev P e).e else fun _ => none := by rw [evS]
@[simp] theorem S_stuck : evS P .stuck = fun _ => none := by rw [evS]
@[simp] theorem Ss_nil : evSs P .nil = sSkip := by rw [evSs]
@[simp] theorem Ss_cons {s ss env} : evSs P (.cons s ss) env = seqK (evS P s env) (evSs P ss) := by rw [evSs]; rfl
@[simp] theorem tg_name {i} : tgF (.name i) = gN i := by rw [tgF]
@[simp] theorem tg_tup {n ts} : tgF (.tup n ts) = gT (tgsF ts) n := by rw [tgF]
@[simp] theorem tgs_nil : tgsF .nil = gN0 := by rw [tgsF]
@[simp] theorem tgs_cons {t ts} : tgsF (.cons t ts) = gNC (tgF t) (tgsF ts) := by rw [tgsF]
end
section
variable {env e : Ev} {d d' : PyData} {i j : Nat}
@[simp] theorem fz_ap {f : M (PyData × Bool)} : fz f env = bnd (f env) fzR := id rfl
@[simp] theorem fzR_f : fzR (d, false) e = some (.ok d e) := id rfl
@[simp] theorem fzR_t {ds} : fzR (.list ds, true) e = some (.ok (.list ds) e) := id rfl
@[simp] theorem fzR_d {ps} : fzR (.dict ps, true) e = some (.ok (.dict ps) e) := id rfl
@[simp] theorem unfz_ap {f : M PyData} : unfz f env = bnd (f env) fun d e => some (.ok (d, false) e) := id rfl
@[simp] theorem op1_ap {f : M PyData} : op1 f env = bnd (f env) fun a e => some (.ok (.val a) e) := id rfl
@[simp] theorem fCst_ap : fCst d env = some (.ok d env) := id rfl
def rdS (i : Nat) (env : Ev) : Option Slot → Option (Rs PyData)
  | some (.val d) => some (.ok d env)
  | some (.ob c) => some (.ok (cD c) (env.set i (.val (cD c))))
  | _ => none
@[simp] theorem rdS_val : rdS i env (some (.val d)) = some (.ok d env) := id rfl
@[simp] theorem rdS_own {ds} : rdS i env (some (.own ds)) = some (.ok (.list ds) (env.set i (.val (.list ds)))) := id rfl
@[simp] theorem rdS_dic {ps} : rdS i env (some (.dic ps)) = some (.ok (.dict ps) (env.set i (.val (.dict ps)))) := id rfl
@[simp] theorem fVar_ap : fVar i env = rdS i env env[i]? := by
  unfold fVar rdS
  cases env[i]? with
  | none => rfl
  | some s => cases s <;> rfl
def rdO (i : Nat) (env : Ev) : Option Slot → Option (Rs Opd)
  | some (.val _) => some (.ok (.slot i) env)
  | some (.ob _) => some (.ok (.slot i) env)
  | _ => none
@[simp] theorem rdO_val : rdO i env (some (.val d)) = some (.ok (.slot i) env) := id rfl
@[simp] theorem rdO_own {ds} : rdO i env (some (.own ds)) = some (.ok (.slot i) env) := id rfl
@[simp] theorem rdO_dic {ps} : rdO i env (some (.dic ps)) = some (.ok (.slot i) env) := id rfl
@[simp] theorem oVar_ap : oVar i env = rdO i env env[i]? := by
  unfold oVar rdO
  cases env[i]? with
  | none => rfl
  | some s => cases s <;> rfl
@[simp] theorem getO_val' : getO env (.val d) = some d := id rfl
def contO : Option Slot → Option PyData
  | some s => cont s
  | none => none
@[simp] theorem contO_val : contO (some (.val d)) = some d := id rfl
@[simp] theorem contO_own {ds} : contO (some (.own ds)) = some (.list ds) := id rfl
@[simp] theorem contO_dic {ps} : contO (some (.dic ps)) = some (.dict ps) := id rfl
@[simp] theorem getO_slot' : getO env (.slot i) = contO env[i]? := by
  show (match env[i]? with | some s => cont s | none => none) = contO env[i]?
  cases env[i]? <;> rfl
@[simp] theorem getOs_nil : getOs env [] = some [] := id rfl
def consO : Option PyData → Option (List PyData) → Option (List PyData)
  | some d, some ds => some (d :: ds)
  | _, _ => none
@[simp] theorem consO_s {ds} : consO (some d) (some ds) = some (d :: ds) := id rfl
@[simp] theorem getOs_cons {o os} : getOs env (o :: os) = consO (getO env o) (getOs env os) := by
  unfold consO
  rw [getOs]
  all_goals (cases getO env o <;> cases getOs env os <;> rfl)
@[simp] theorem vNil_ap : vNil env = some (.ok [] env) := id rfl
@[simp] theorem aNil_ap : aNil env = some (.ok [] env) := id rfl
@[simp] theorem vCons_ap {f g} : vCons f g env = bnd (f env) fun d e1 => bnd (g e1) fun ds e2 => some (.ok (d :: ds) e2) := id rfl
@[simp] theorem aCons_ap {f g} : aCons f g env = bnd (f env) fun d e1 => bnd (g e1) fun ds e2 => some (.ok (d :: ds) e2) := id rfl
@[simp] theorem fTup_ap {g} : fTup g env = bnd (g env) fun ds e => if ds.length ≤ sizeLine then some (.ok (.tuple ds, false) e) else none := id rfl
@[simp] theorem fLst_ap {g} : fLst g env = bnd (g env) fun ds e => if ds.length ≤ sizeLine then some (.ok (.list ds, true) e) else none := id rfl
def resO (env : Ev) : Option Or → Option (Rs (PyData × Bool))
  | some o => some (orR env o)
  | none => none
@[simp] theorem resO_old : resO env (some (.old d)) = some (.ok (d, false) env) := id rfl
@[simp] theorem resO_newT {ds} : resO env (some (.newT ds)) = some (.ok (.tuple ds, false) env) := id rfl
@[simp] theorem resO_newL {ds} : resO env (some (.newL ds)) = some (.ok (.list ds, true) env) := id rfl
def bin2 (env : Ev) (op : B2) : Option PyData → Option PyData → Option (Rs (PyData × Bool))
  | some u, some v => resO env (op u v)
  | _, _ => none
@[simp] theorem bin2_s {op : B2} : bin2 env op (some d) (some d') = resO env (op d d') := id rfl
@[simp] theorem fBin_ap {op fa fb} : fBin op fa fb env = bnd (fa env) fun x e1 => bnd (fb e1) fun y e2 => bin2 e2 op (getO e2 x) (getO e2 y) := by
  unfold fBin
  congr 1; funext x e1; congr 1; funext y e2
  cases getO e2 x <;> cases getO e2 y <;> first | rfl | skip
  rename_i u v
  show Option.map _ _ = resO e2 (op u v)
  cases op u v <;> rfl
def un1 (env : Ev) (op : PyData → Option Or) : Option PyData → Option (Rs (PyData × Bool))
  | some u => resO env (op u)
  | none => none
@[simp] theorem un1_s {op} : un1 env op (some d) = resO env (op d) := id rfl
@[simp] theorem fUn_ap {op fa} : fUn op fa env = bnd (fa env) fun x e1 => un1 e1 op (getO e1 x) := by
  unfold fUn
  congr 1; funext x e1
  cases getO e1 x with
  | none => rfl
  | some u => show Option.map _ _ = resO e1 (op u); cases op u <;> rfl
def chK2 (op' : B2) (fc : M Opd) (e2 : Ev) (y : Opd) : Option Or → Option (Rs (PyData × Bool))
  | some (.old (.bool true)) => bnd (fc e2) fun z e3 => bin2 e3 op' (getO e3 y) (getO e3 z)
  | some (.old (.bool false)) => some (.ok (.bool false, false) e2)
  | _ => none
@[simp] theorem chK2_b {op' : B2} {fc : M Opd} {e2 : Ev} {y : Opd} {b : Bool} : chK2 op' fc e2 y (some (.old (.bool b))) = if b = true then bnd (fc e2) (fun z e3 => bin2 e3 op' (getO e3 y) (getO e3 z)) else some (.ok (.bool false, false) e2) := by cases b <;> rfl
def chO (op op' : B2) (fc : M Opd) (e2 : Ev) (y : Opd) : Option PyData → Option PyData → Option (Rs (PyData × Bool))
  | some u, some v => chK2 op' fc e2 y (op u v)
  | _, _ => none
@[simp] theorem chO_s {op op' : B2} {fc : M Opd} {e2 : Ev} {y : Opd} : chO op op' fc e2 y (some d) (some d') = chK2 op' fc e2 y (op d d') := id rfl
@[simp] theorem fChain_ap {op op' : B2} {fa fb fc : M Opd} : fChain op op' fa fb fc env = bnd (fa env) fun x e1 => bnd (fb e1) fun y e2 => chO op op' fc e2 y (getO e2 x) (getO e2 y) := by
  have k : ∀ (y : Opd) (e2 : Ev) (o : Option Or), (match o with
    | some (.old (.bool true)) => bnd (fc e2) fun z e3 =>
      match getO e3 y, getO e3 z with
      | some v', some w => (op' v' w).map (orR e3)
      | _, _ => none
    | some (.old (.bool false)) => some (.ok (.bool false, false) e2)
    | _ => none : Option (Rs (PyData × Bool))) = chK2 op' fc e2 y o := by
    intro y e2 o
    unfold chK2
    split
    · refine congrArg (bnd (fc e2)) (funext fun z => funext fun e3 => ?_)
      unfold bin2
      cases getO e3 y <;> cases getO e3 z <;> first | rfl | skip
      rename_i u v
      show Option.map _ _ = resO e3 (op' u v)
      cases op' u v <;> rfl
    · rfl
    · rfl
  unfold fChain
  refine congrArg (bnd (fa env)) (funext fun x => funext fun e1 => congrArg (bnd (fb e1)) (funext fun y => funext fun e2 => ?_))
  cases getO e2 x <;> cases getO e2 y <;> first | rfl | exact k y e2 _
def tstK (a : PyData × Bool) (e : Ev) : Option (Rs Bool) :=
  match a.1 with
  | .bool b => some (.ok b e)
  | _ => none
@[simp] theorem tstK_b {b f} : tstK (.bool b, f) e = some (.ok b e) := id rfl
@[simp] theorem fTst_ap {f} : fTst f env = bnd (f env) tstK := id rfl
def truO (e : Ev) : Option PyData → Option (Rs Bool)
  | some d => match truD d with
    | some b => some (.ok b e)
    | none => none
  | none => none
@[simp] theorem truO_bool {b} : truO e (some (.bool b)) = some (.ok b e) := id rfl
@[simp] theorem truO_int {k} : truO e (some (.int k)) = some (.ok (k != 0) e) := id rfl
@[simp] theorem truO_list {ds} : truO e (some (.list ds)) = some (.ok (!ds.isEmpty) e) := id rfl
@[simp] theorem truO_tuple {ds} : truO e (some (.tuple ds)) = some (.ok (!ds.isEmpty) e) := id rfl
@[simp] theorem truO_none : truO e (some .none) = some (.ok false e) := id rfl
@[simp] theorem fTru_ap {f} : fTru f env = bnd (f env) fun o e => truO e (getO e o) := by
  unfold fTru
  refine congrArg (bnd (f env)) (funext fun o => funext fun e => ?_)
  cases getO e o <;> rfl
@[simp] theorem mNot_ap {f} : mNot f env = bnd (f env) fun b e => some (.ok (!b) e) := id rfl
@[simp] theorem mAnd_ap {f g} : mAnd f g env = bnd (f env) fun b e => if b = true then g e else some (.ok false e) := id rfl
@[simp] theorem mOr_ap {f g} : mOr f g env = bnd (f env) fun b e => if b = true then some (.ok true e) else g e := id rfl
def notK (d : PyData) (e : Ev) : Option (Rs PyData) :=
  match d with
  | .bool b => some (.ok (.bool (!b)) e)
  | _ => none
@[simp] theorem notK_b {b} : notK (.bool b) e = some (.ok (.bool (!b)) e) := id rfl
@[simp] theorem vNot_ap {f} : vNot f env = bnd (f env) notK := id rfl
def andK (g : M PyData) (d : PyData) (e : Ev) : Option (Rs PyData) :=
  match d with
  | .bool b => if b = true then g e else some (.ok (.bool false) e)
  | _ => none
def orK (g : M PyData) (d : PyData) (e : Ev) : Option (Rs PyData) :=
  match d with
  | .bool b => if b = true then some (.ok (.bool true) e) else g e
  | _ => none
@[simp] theorem andK_b {g b} : andK g (.bool b) e = if b = true then g e else some (.ok (.bool false) e) := id rfl
@[simp] theorem orK_b {g b} : orK g (.bool b) e = if b = true then some (.ok (.bool true) e) else g e := id rfl
@[simp] theorem vAnd_ap {f g} : vAnd f g env = bnd (f env) (andK g) := id rfl
@[simp] theorem vOr_ap {f g} : vOr f g env = bnd (f env) (orK g) := id rfl
@[simp] theorem fIf_ap {t f g} : fIf t f g env = bnd (t env) fun b e => if b = true then f e else g e := id rfl
@[simp] theorem fIfT_ap {t f g} : fIfT t f g env = bnd (t env) fun b e => if b = true then f e else g e := id rfl
@[simp] theorem pNo_ap : pNo env = some (.ok none env) := id rfl
def soK (d : PyData) (e : Ev) : Option (Rs (Option Int)) :=
  match d with
  | .int i => some (.ok (some i) e)
  | _ => none
@[simp] theorem soK_i {k} : soK (.int k) e = some (.ok (some k) e) := id rfl
@[simp] theorem pSo_ap {f} : pSo f env = bnd (f env) soK := id rfl
def slO (e : Ev) (lo hi : Option Int) : Option PyData → Option (Rs (PyData × Bool))
  | some u => resO e (slD u lo hi)
  | none => none
@[simp] theorem slO_s {lo hi} : slO e lo hi (some d) = resO e (slD d lo hi) := id rfl
@[simp] theorem fSl_ap {fa fl fh} : fSl fa fl fh env = bnd (fa env) fun x e1 => bnd (fl e1) fun lo e2 => bnd (fh e2) fun hi e3 => slO e3 lo hi (getO e3 x) := by
  unfold fSl
  congr 1; funext x e1; congr 1; funext lo e2; congr 1; funext hi e3
  cases getO e3 x with
  | none => rfl
  | some u => show Option.map _ _ = resO e3 (slD u lo hi); cases slD u lo hi <;> rfl
def bltO (e : Ev) (op : BN) : Option (List PyData) → Option (Rs (PyData × Bool))
  | some ds => resO e (op ds)
  | none => none
@[simp] theorem bltO_s {op ds} : bltO e op (some ds) = resO e (op ds) := id rfl
@[simp] theorem fBlt_ap {op g} : fBlt op g env = bnd (g env) fun os e => bltO e op (getOs e os) := by
  unfold fBlt
  refine congrArg (bnd (g env)) (funext fun os => funext fun e => ?_)
  cases getOs e os with
  | none => rfl
  | some u => show Option.map _ _ = resO e (op u); cases op u <;> rfl
def isiO (e : Ev) (T : Tn) : Option PyData → Option (Rs (PyData × Bool))
  | some d => match isD T d with
    | some b => some (.ok (.bool b, false) e)
    | none => none
  | none => none
@[simp] theorem isiO_int {T k} : isiO e T (some (.int k)) = some (.ok (.bool (T == .int), false) e) := id rfl
@[simp] theorem isiO_bool {T k} : isiO e T (some (.bool k)) = some (.ok (.bool (T == .bool || T == .int), false) e) := id rfl
@[simp] theorem isiO_str {T k} : isiO e T (some (.str k)) = some (.ok (.bool (T == .str), false) e) := id rfl
@[simp] theorem isiO_list {T k} : isiO e T (some (.list k)) = some (.ok (.bool (T == .list), false) e) := id rfl
@[simp] theorem isiO_tuple {T k} : isiO e T (some (.tuple k)) = some (.ok (.bool (T == .tuple), false) e) := id rfl
@[simp] theorem isiO_none {T} : isiO e T (some .none) = some (.ok (.bool false, false) e) := id rfl
@[simp] theorem fIsi_ap {f T} : fIsi f T env = bnd (f env) fun o e => isiO e T (getO e o) := by
  unfold fIsi
  refine congrArg (bnd (f env)) (funext fun o => funext fun e => ?_)
  cases getO e o <;> rfl
def callO (os : List Opd) (e : Ev) : Option COut → Option (Rs (PyData × Bool))
  | some (.ret d) => if flat d = true then some (.ok (d, false) e) else some (.ok (d, false) (frzAll os e))
  | some (.exc c) => some (.exc c e)
  | none => none
def callN (np : Nat) (cf : CF) (os : List Opd) (e : Ev) : Option (List PyData) → Option (Rs (PyData × Bool))
  | some ds => if ds.length = np then callO os e (cf ds) else none
  | none => none
@[simp] theorem callN_s {np cf os ds} : callN np cf os e (some ds) = if ds.length = np then callO os e (cf ds) else none := id rfl
theorem callO_ret {os} : callO os e (some (.ret d)) = if flat d = true then some (.ok (d, false) e) else some (.ok (d, false) (frzAll os e)) := rfl
@[simp] theorem callO_exc {os c} : callO os e (some (.exc c)) = some (.exc c e) := id rfl
@[simp] theorem callO_int {os k} : callO os e (some (.ret (.int k))) = some (.ok (.int k, false) e) := id rfl
@[simp] theorem callO_bool {os k} : callO os e (some (.ret (.bool k))) = some (.ok (.bool k, false) e) := id rfl
@[simp] theorem callO_str {os k} : callO os e (some (.ret (.str k))) = some (.ok (.str k, false) e) := id rfl
@[simp] theorem callO_none {os} : callO os e (some (.ret .none)) = some (.ok (.none, false) e) := id rfl
@[simp] theorem callO_list {os k} : callO os e (some (.ret (.list k))) = some (.ok (.list k, false) (frzAll os e)) := id rfl
@[simp] theorem callO_tuple {os k} : callO os e (some (.ret (.tuple k))) = some (.ok (.tuple k, false) (frzAll os e)) := id rfl
@[simp] theorem frzAll_nil : frzAll [] env = env := id rfl
@[simp] theorem frzAll_cons {o os} : frzAll (o :: os) env = frzAll os (frzO o env) := id rfl
@[simp] theorem frzO_val' : frzO (.val d) env = env := id rfl
def frzS (i : Nat) (env : Ev) : Option Slot → Ev
  | some (.ob c) => env.set i (.val (cD c))
  | _ => env
@[simp] theorem frzS_val : frzS i env (some (.val d)) = env := id rfl
@[simp] theorem frzS_own {ds} : frzS i env (some (.own ds)) = env.set i (.val (.list ds)) := id rfl
@[simp] theorem frzS_dic {ps} : frzS i env (some (.dic ps)) = env.set i (.val (.dict ps)) := id rfl
@[simp] theorem frzO_slot' : frzO (.slot i) env = frzS i env env[i]? := by
  show (match env[i]? with | some (.ob c) => env.set i (.val (cD c)) | _ => env) = frzS i env env[i]?
  cases env[i]? with
  | none => rfl
  | some s => cases s <;> rfl
def callFN (np : Nat) (cf : CFF) (e : Ev) (os : List Opd) : Option (List PyData) → Option (Rs (PyData × Bool))
  | some ds => if ds.length = np then (match cf ds with | some c => some (.ok (cD c, true) (frzAll os e)) | none => none) else none
  | none => none
@[simp] theorem callFN_s {np} {cf : CFF} {ds : List PyData} {os : List Opd} {e : Ev} : callFN np cf e os (some ds) = if ds.length = np then (match cf ds with | some c => some (.ok (cD c, true) (frzAll os e)) | none => none) else none := id rfl
@[simp] theorem fCallF_ap {np} {cf : CFF} {g : M (List Opd)} {env : Ev} : fCallF np cf g env = bnd (g env) fun os e => callFN np cf e os (getOs e os) := by
  unfold fCallF
  congr 1
def callKO (e : Ev) : Option COut → Option (Rs (PyData × Bool))
  | some (.ret d) => if noL d = true then some (.ok (d, false) e) else none
  | some (.exc c) => some (.exc c e)
  | none => none
def callKN (np : Nat) (cf : CF) (e : Ev) : Option (List PyData) → Option (Rs (PyData × Bool))
  | some ds => if ds.length = np then callKO e (cf ds) else none
  | none => none
@[simp] theorem callKN_s {np cf ds} : callKN np cf e (some ds) = if ds.length = np then callKO e (cf ds) else none := id rfl
@[simp] theorem callKO_ret {d} : callKO e (some (.ret d)) = if noL d = true then some (.ok (d, false) e) else none := id rfl
@[simp] theorem callKO_exc {c} : callKO e (some (.exc c)) = some (.exc c e) := id rfl
@[simp] theorem fCallK_ap {np cf g} : fCallK np cf g env = bnd (g env) fun os e => callKN np cf e (getOs e os) := by
  unfold fCallK
  refine congrArg (bnd (g env)) (funext fun os => funext fun e => ?_)
  unfold callKN callKO
  cases getOs e os with
  | none => rfl
  | some ds =>
    simp only
    all_goals (split
               · cases cf ds with
                 | none => rfl
                 | some r => cases r <;> rfl
               · rfl)
@[simp] theorem fCall_ap {np cf g} : fCall np cf g env = bnd (g env) fun os e => callN np cf os e (getOs e os) := by
  unfold fCall
  refine congrArg (bnd (g env)) (funext fun os => funext fun e => ?_)
  cases getOs e os with
  | none => rfl
  | some ds =>
    simp only [callN_s]
    split
    · cases cf ds with
      | none => rfl
      | some r => cases r <;> rfl
    · rfl
def popK (i : Nat) (env : Ev) : Option Slot → Option (Rs PyData)
  | some (.ob (.lst ds)) => match ds[ds.length - 1]? with
    | some d => some (.ok d (env.set i (.own ds.dropLast)))
    | none => none
  | _ => none
@[simp] theorem popK_own {ds x} : popK i env (some (.own (ds ++ [x]))) = some (.ok x (env.set i (.own ds))) := by
  simp [popK]
@[simp] theorem fPop_ap : fPop i env = popK i env env[i]? := by
  unfold fPop popK
  rcases env[i]? with _ | _ | _ | _ | _ <;> rfl
def appK (i : Nat) (d : PyData) (e : Ev) : Option Slot → Option (Rs PyData)
  | some (.ob (.lst ds)) => if ds.length < sizeLine then some (.ok .none (e.set i (.own (ds ++ [d])))) else none
  | _ => none
@[simp] theorem appK_own {ds} : appK i d e (some (.own ds)) = if ds.length < sizeLine then some (.ok .none (e.set i (.own (ds ++ [d])))) else none := id rfl
def ownB : Option Slot → Bool
  | some (.ob (.lst _)) => true
  | _ => false
@[simp] theorem ownB_own {ds} : ownB (some (.own ds)) = true := id rfl
@[simp] theorem fApp_ap {f} : fApp i f env = if ownB env[i]? = true then bnd (f env) (fun d e => appK i d e e[i]?) else none := by
  have k : ∀ d (e : Ev), (match e[i]? with | some (.ob (.lst ds)) => if ds.length < sizeLine then some (.ok .none (e.set i (.own (ds ++ [d])))) else none | _ => none : Option (Rs PyData)) = appK i d e e[i]? := by
    intro d e
    rcases e[i]? with _ | _ | _ | _ | _ <;> rfl
  unfold fApp
  rcases env[i]? with _ | _ | _ | _ | _
  case some.ob.lst =>
    simp only [ownB, if_true]
    exact congrArg (bnd (f env)) (funext fun d => funext fun e => k d e)
  all_goals rfl
def extK (i : Nat) (e : Ev) : Option Slot → Option PyData → Option (Rs PyData)
  | some (.ob (.lst ds)), some (.list es) => if ds.length + es.length ≤ sizeLine then some (.ok .none (e.set i (.own (ds ++ es)))) else none
  | _, _ => none
@[simp] theorem extK_own {ds es} : extK i e (some (.own ds)) (some (.list es)) = if ds.length + es.length ≤ sizeLine then some (.ok .none (e.set i (.own (ds ++ es)))) else none := id rfl
@[simp] theorem fExt_ap {f} : fExt i f env = if ownB env[i]? = true then bnd (f env) (fun o e => extK i e e[i]? (getO e o)) else none := by
  have k : ∀ o (e : Ev), (match e[i]?, getO e o with | some (.ob (.lst ds)), some (.list es) => if ds.length + es.length ≤ sizeLine then some (.ok .none (e.set i (.own (ds ++ es)))) else none | _, _ => none : Option (Rs PyData)) = extK i e e[i]? (getO e o) := by
    intro o e
    rcases e[i]? with _ | _ | _ | _ | _ <;> cases getO e o with
      | none => rfl
      | some d => cases d <;> rfl
  unfold fExt
  rcases env[i]? with _ | _ | _ | _ | _
  case some.ob.lst =>
    simp only [ownB, if_true]
    exact congrArg (bnd (f env)) (funext fun d => funext fun e => k d e)
  all_goals rfl
@[simp] theorem mYes_ap : mYes env = some (.ok true env) := id rfl
/-! iterators -/
def seqI (d : PyData) (e : Ev) : Option (Rs (List PyData)) :=
  match itemsD d with
  | some ds => some (.ok ds e)
  | none => none
@[simp] theorem seqI_list {ds} : seqI (.list ds) e = some (.ok ds e) := id rfl
@[simp] theorem seqI_tuple {ds} : seqI (.tuple ds) e = some (.ok ds e) := id rfl
@[simp] theorem seqI_str {x} : seqI (.str x) e = some (.ok (signs x) e) := id rfl
@[simp] theorem iSeq_ap {f} : iSeq f env = bnd (f env) seqI := id rfl
def rngI (e : Ev) : Option (List PyData) → Option (Rs (List PyData))
  | some us => match rangeD us with
    | some (.newL ds) => some (.ok ds e)
    | _ => none
  | none => none
@[simp] theorem iRange_ap {g} : iRange g env = bnd (g env) fun os e => rngI e (getOs e os) := by
  unfold iRange
  refine congrArg (bnd (g env)) (funext fun os => funext fun e => ?_)
  cases getOs e os <;> rfl
theorem rngI_1 {k : Int} (h : -(2 ^ 62) ≤ k ∧ k < 2 ^ 62) : rngI e (some [.int k]) = some (.ok ((List.range k.toNat).map fun (n : Nat) => .int (0 + n)) e) := by
  unfold rngI rangeD
  simp only [if_pos h]
theorem rngI_2 {k l : Int} (h : -(2 ^ 62) ≤ k ∧ k < 2 ^ 62 ∧ -(2 ^ 62) ≤ l ∧ l < 2 ^ 62) : rngI e (some [.int k, .int l]) = some (.ok ((List.range (l - k).toNat).map fun (n : Nat) => .int (k + n)) e) := by
  unfold rngI rangeD
  simp only [if_pos h]
def enumI (d : PyData) (e : Ev) : Option (Rs (List PyData)) :=
  match enumItems d with
  | some ds => some (.ok (enumF 0 ds) e)
  | none => none
@[simp] theorem enumI_l {ds} : enumI (.list ds) e = some (.ok (enumF 0 ds) e) := id rfl
@[simp] theorem enumI_t {ds} : enumI (.tuple ds) e = some (.ok (enumF 0 ds) e) := id rfl
@[simp] theorem iEnum_ap {f} : iEnumD f env = bnd (f env) enumI := id rfl
def zipI (d : PyData) (d' : PyData) (e : Ev) : Option (Rs (List PyData)) :=
  match zipItems d d' with
  | some ds => some (.ok ds e)
  | none => none
@[simp] theorem zipI_l {xs ys} : zipI (.list xs) (.list ys) e = some (.ok (zipF xs ys) e) := id rfl
@[simp] theorem zipI_t {xs ys} : zipI (.tuple xs) (.tuple ys) e = some (.ok (zipF xs ys) e) := id rfl
@[simp] theorem iZip_ap {f g} : iZipD f g env = bnd (f env) fun d e => bnd (g e) (zipI d) := id rfl
def revI (d : PyData) (e : Ev) : Option (Rs (List PyData)) :=
  match revItems d with
  | some ds => some (.ok ds e)
  | none => none
@[simp] theorem revI_l {ds} : revI (.list ds) e = some (.ok ds.reverse e) := id rfl
@[simp] theorem revI_t {ds} : revI (.tuple ds) e = some (.ok ds.reverse e) := id rfl
@[simp] theorem iRev_ap {f} : iRevD f env = bnd (f env) revI := id rfl
def rvI (d : PyData) (e : Ev) : Option (Rs (List PyData)) :=
  match d with
  | .int n => if -(2 ^ 62) ≤ n ∧ n < 2 ^ 62 then some (.ok ((List.range n.toNat).map fun (k : Nat) => .int ((n.toNat : Int) - 1 - k)) e) else none
  | _ => none
theorem rvI_n {n : Nat} (h : n < 2 ^ 62) (e : Ev) : rvI (.int (n : Int)) e = some (.ok ((List.range n).map fun (k : Nat) => .int ((n : Int) - 1 - k)) e) := by
  unfold rvI
  simp only [Int.toNat_natCast]
  rw [if_pos ⟨by omega, by omega⟩]
@[simp] theorem iRevR_ap {f} : iRevR f env = bnd (f env) rvI := id rfl
/-! statements -/
@[simp] theorem sSkip_ap : sSkip env = some (.nx env) := id rfl
@[simp] theorem sBreak_ap : sBreak env = some (.brk env) := id rfl
@[simp] theorem sCont_ap : sCont env = some (.cnt env) := id rfl
@[simp] theorem sExpr_ap {f} : sExpr f env = exK (f env) fun _ e => some (.nx e) := id rfl
@[simp] theorem sRet_ap {f} : sRet f env = exK (f env) fun d _ => some (.ret d) := id rfl
@[simp] theorem sRetN_ap : sRetN env = some (.ret .none) := id rfl
@[simp] theorem setR_f : setR i (d, false) e = some (.nx (e.set i (.val d))) := id rfl
@[simp] theorem setR_t {ds} : setR i (.list ds, true) e = some (.nx (e.set i (.own ds))) := id rfl
@[simp] theorem setR_d {ps} : setR i (.dict ps, true) e = some (.nx (e.set i (.dic ps))) := id rfl
@[simp] theorem sSet_ap {f} : sSet i f env = exK (f env) (setR i) := id rfl
def tgK : Option Ev → Option So
  | some e' => some (.nx e')
  | none => none
@[simp] theorem tgK_s : tgK (some e) = some (.nx e) := id rfl
@[simp] theorem sTgt_ap {f g} : sTgt f g env = exK (f env) fun d e => tgK (g d e) := by
  unfold sTgt
  refine congrArg (exK (f env)) (funext fun d => funext fun e => ?_)
  cases g d e <;> rfl
@[simp] theorem sIf_ap {t f g} : sIf t f g env = exK (t env) fun b e => if b = true then f e else g e := id rfl
@[simp] theorem sFor_ap {it tg body} : sFor it tg body env = exK (it env) fun ds e => forL tg body ds e := id rfl
@[simp] theorem sRaise_ap {c} : sRaise c env = some (.exc c env) := id rfl
def undS (j : Nat) (e : Ev) : Option Slot → Option So
  | some .und => some (.nx (e.set j (.val (.bool true))))
  | _ => none
@[simp] theorem undS_u {j : Nat} {e : Ev} : undS j e (some .und) = some (.nx (e.set j (.val (.bool true)))) := id rfl
def tryK (i j k : Nat) (c : PySem.Str) : Option (Rs (PyData × Bool)) → Option So
  | some (.ok r e) => setR i r e
  | some (.exc c' e) => if c' = c then undS j e e[k]? else none
  | none => none
@[simp] theorem tryK_ok {i j k : Nat} {c : PySem.Str} {r : PyData × Bool} {e : Ev} : tryK i j k c (some (.ok r e)) = setR i r e := id rfl
@[simp] theorem tryK_exc {i j k : Nat} {c : PySem.Str} {e : Ev} : tryK i j k c (some (.exc c e)) = undS j e e[k]? := by
  show (if c = c then _ else _) = _
  rw [if_pos rfl]
@[simp] theorem sTryx_ap {i j k : Nat} {c : PySem.Str} {f : M (PyData × Bool)} : sTryx i j k c f env = tryK i j k c (f env) := by
  unfold sTryx tryK
  cases f env with
  | none => rfl
  | some o =>
    cases o with
    | ok r e => rfl
    | exc c' e =>
      show (if c' = c then _ else _) = (if c' = c then _ else _)
      by_cases h : c' = c
      · rw [if_pos h, if_pos h]
        cases e[k]? with
        | none => rfl
        | some s => cases s <;> rfl
      · rw [if_neg h, if_neg h]
@[simp] theorem gN_ap : gN i d env = some (env.set i (.val d)) := id rfl
@[simp] theorem gN0_ap : gN0 [] env = some env := id rfl
def gK (g : List PyData → Ev → Option Ev) (ds : List PyData) : Option Ev → Option Ev
  | some e => g ds e
  | none => none
@[simp] theorem gK_s {g ds} : gK g ds (some e) = g ds e := id rfl
@[simp] theorem gNC_ap {f g ds} : gNC f g (d :: ds) env = gK g ds (f d env) := by
  show (match f d env with | some e => g ds e | none => none) = gK g ds (f d env)
  cases f d env <;> rfl
@[simp] theorem gT_ap {g n ds} : gT g n (.tuple ds) env = if ds.length = n then g ds env else none := id rfl
@[simp] theorem gT_apL {g n ds} : gT g n (.list ds) env = if ds.length = n then g ds env else none := id rfl
def augK (i : Nat) (op : Operator) (e : Ev) : Option Slot → Option PyData → Option So
  | some (.val u), some v => match iaugD op u v with
    | some (.old d) => some (.nx (e.set i (.val d)))
    | _ => none
  | _, _ => none
def augR (i : Nat) (e : Ev) : Option Or → Option So
  | some (.old d) => some (.nx (e.set i (.val d)))
  | _ => none
@[simp] theorem augR_old : augR i e (some (.old d)) = some (.nx (e.set i (.val d))) := id rfl
@[simp] theorem augK_s {op} : augK i op e (some (.val d)) (some d') = augR i e (iaugD op d d') := by
  show (match iaugD op d d' with | some (.old d) => some (.nx (e.set i (.val d))) | _ => none) = augR i e (iaugD op d d')
  cases iaugD op d d' with
  | none => rfl
  | some o => cases o <;> rfl
def valB : Option Slot → Bool
  | some (.val _) => true
  | _ => false
@[simp] theorem valB_val : valB (some (.val d)) = true := id rfl
@[simp] theorem sAug_ap {op f} : sAug i op f env = if valB env[i]? = true then exK (f env) (fun o e => augK i op e e[i]? (getO e o)) else none := by
  have k : ∀ o (e : Ev), (match e[i]?, getO e o with | some (.val u), some v => (match iaugD op u v with | some (.old d) => some (.nx (e.set i (.val d))) | _ => none) | _, _ => none : Option So) = augK i op e e[i]? (getO e o) := by
    intro o e
    cases e[i]? with
    | none => rfl
    | some s =>
      cases s <;> cases getO e o <;> rfl
  unfold sAug
  cases env[i]? with
  | none => rfl
  | some s =>
    cases s with
    | und => rfl
    | ob _ => rfl
    | val _ =>
      simp only [valB_val, if_true]
      exact congrArg (exK (f env)) (funext fun d => funext fun e => k d e)
def subL (i : Nat) (d : PyData) (e2 : Ev) (ds : List PyData) : PyData → Option So
  | .int k => match ixN ds.length k with
    | some j => some (.nx (e2.set i (.own (ds.set j d))))
    | none => none
  | _ => none
def subDK (i : Nat) (d : PyData) (e2 : Ev) (ps : List (PyData × PyData)) (k : PyData) : Option DK → Option So
  | some q => if kindOk ps q = true ∧ ps.length < sizeLine then some (.nx (e2.set i (.dic (putP ps q k d)))) else none
  | none => none
@[simp] theorem subDK_s {ps : List (PyData × PyData)} {k : PyData} {q : DK} : subDK i d e ps k (some q) = if kindOk ps q = true ∧ ps.length < sizeLine then some (.nx (e.set i (.dic (putP ps q k d)))) else none := id rfl
def subK (i : Nat) (d : PyData) (e2 : Ev) : Option Slot → PyData → Option So
  | some (.ob (.lst ds)), k => subL i d e2 ds k
  | some (.ob (.dic ps)), k => subDK i d e2 ps k (dkOf k)
  | _, _ => none
@[simp] theorem subK_own {ds : List PyData} {k : PyData} : subK i d e (some (.own ds)) k = subL i d e ds k := id rfl
@[simp] theorem subK_dic {ps : List (PyData × PyData)} {k : PyData} : subK i d e (some (.dic ps)) k = subDK i d e ps k (dkOf k) := id rfl
def obB : Option Slot → Bool
  | some (.ob _) => true
  | _ => false
@[simp] theorem obB_own {ds} : obB (some (.own ds)) = true := id rfl
@[simp] theorem obB_dic {ps} : obB (some (.dic ps)) = true := id rfl
@[simp] theorem sSub_ap {fk fv} : sSub i fk fv env = exK (fv env) fun d e => if obB e[i]? = true then exK (fk e) (fun k e2 => subK i d e2 e2[i]? k) else none := by
  unfold sSub
  refine congrArg (exK (fv env)) (funext fun d => funext fun e => ?_)
  rcases e[i]? with _ | _ | _ | c
  · rfl
  · rfl
  · rfl
  · simp only [obB, if_true]
    refine congrArg (exK (fk e)) (funext fun k => funext fun e2 => ?_)
    rcases e2[i]? with _ | _ | _ | _ | _
    case some.ob.lst => cases k <;> rfl
    case some.ob.dic =>
      simp only [subK]
      cases dkOf k <;> rfl
    all_goals rfl
def saugE (i : Nat) (op : Operator) (fv : M PyData) (e1 : Ev) : Option Slot → PyData → Option So
  | some (.ob (.lst ds)), .int k => match atI ds k with
    | some u => exK (fv e1) fun v e2 => saugK i op k u v e2
    | none => none
  | _, _ => none
@[simp] theorem saugE_own {i op fv e1} {ds : List PyData} {k : Int} : saugE i op fv e1 (some (.own ds)) (.int k) = match atI ds k with
    | some u => exK (fv e1) fun v e2 => saugK i op k u v e2
    | none => none := id rfl
@[simp] theorem sSaug_ap {op fk fv} : sSaug i op fk fv env = if obB env[i]? = true then exK (fk env) (fun k e1 => saugE i op fv e1 e1[i]? k) else none := by
  unfold sSaug
  rcases env[i]? with _ | _ | _ | c
  · rfl
  · rfl
  · rfl
  · simp only [obB, if_true]
    refine congrArg (exK (fk env)) (funext fun k => funext fun e1 => ?_)
    rcases e1[i]? with _ | _ | _ | _ | _
    case some.ob.lst => cases k <;> rfl
    all_goals rfl
@[simp] theorem fDnew_ap : fDnew env = some (.ok (.dict [], true) env) := id rfl
def dispK (k v : PyData) (e : Ev) : Option DK → Option (Rs (PyData × Bool))
  | some _ => some (.ok (.dict [(k, v)], true) e)
  | none => none
@[simp] theorem dispK_s {k v : PyData} {q : DK} : dispK k v e (some q) = some (.ok (.dict [(k, v)], true) e) := id rfl
@[simp] theorem fDisp1_ap {fk fv} : fDisp1 fk fv env = bnd (fk env) fun k e1 => bnd (fv e1) fun v e2 => dispK k v e2 (dkOf k) := by
  unfold fDisp1
  refine congrArg (bnd (fk env)) (funext fun k => funext fun e1 => congrArg (bnd (fv e1)) (funext fun v => funext fun e2 => ?_))
  cases dkOf k <;> rfl
def dgK (d : PyData) (e : Ev) : Option (Option PyData) → Option (Rs PyData)
  | some r => some (.ok (r.getD d) e)
  | none => none
@[simp] theorem dgK_s {r : Option PyData} : dgK d e (some r) = some (.ok (r.getD d) e) := id rfl
@[simp] theorem fDget2_ap {fo fk fd} : fDget2 fo fk fd env = bnd (fo env) fun o e1 => if isDic (getO e1 o) = true then bnd (fk e1) (fun k e2 => bnd (fd e2) fun d e3 => dgK d e3 (getR (getO e3 o) k)) else none := by
  unfold fDget2
  refine congrArg (bnd (fo env)) (funext fun o => funext fun e1 => ?_)
  split
  · refine congrArg (bnd (fk e1)) (funext fun k => funext fun e2 => congrArg (bnd (fd e2)) (funext fun d => funext fun e3 => ?_))
    cases getR (getO e3 o) k <;> rfl
  · rfl
def tiK (e : Ev) : Option Nat → Option (Rs PyData)
  | some j => some (.ok (.int j) e)
  | none => none
@[simp] theorem tiK_s {j : Nat} : tiK e (some j) = some (.ok (.int j) e) := id rfl
@[simp] theorem fTidx_ap {fo fk} : fTidx fo fk env = bnd (fo env) fun o e1 => if isTupO (getO e1 o) = true then bnd (fk e1) (fun k e2 => tiK e2 (idxR (getO e2 o) k)) else none := by
  unfold fTidx
  refine congrArg (bnd (fo env)) (funext fun o => funext fun e1 => ?_)
  split
  · refine congrArg (bnd (fk e1)) (funext fun k => funext fun e2 => ?_)
    cases idxR (getO e2 o) k <;> rfl
  · rfl
@[simp] theorem isTupO_t {ds} : isTupO (some (.tuple ds)) = true := id rfl
@[simp] theorem rvO_l {ds} : rvO (.list ds) = some (.newL ds.reverse) := id rfl
theorem intsOf_map (ns : List Int) : intsOf (ns.map .int) = some ns := by
  induction ns with
  | nil => rfl
  | cons n ns ih => simp [intsOf, ih]
theorem idxR_i {ns : List Int} {k : Int} (h : k ∈ ns) : idxR (some (.tuple (ns.map .int))) (.int k) = some (ns.idxOf k) := by
  simp [idxR, intsOf_map, h]
theorem rg2_i {t : Bool} {i j : Int} (h : -(2 ^ 62) ≤ i ∧ i < 2 ^ 62 ∧ -(2 ^ 62) ≤ j ∧ j < 2 ^ 62 ∧ (j - i).toNat ≤ 2 ^ 24) : rgO t (.int i) (.int j) = some (if t = true then .newT (rgD i j) else .newL (rgD i j)) := by
  show (if _ then _ else _) = _
  rw [if_pos h]
theorem rg1_i {t : Bool} {j : Int} (h : -(2 ^ 62) ≤ j ∧ j < 2 ^ 62 ∧ j.toNat ≤ 2 ^ 24) : rg1O t (.int j) = some (if t = true then .newT (rgD 0 j) else .newL (rgD 0 j)) := by
  unfold rg1O
  exact rg2_i ⟨by decide, by decide, h.1, h.2.1, by rw [Int.sub_zero]; exact h.2.2⟩
@[simp] theorem isDic_d {ps} : isDic (some (.dict ps)) = true := id rfl
@[simp] theorem getR_d {ps k} : getR (some (.dict ps)) k = getP ps k := id rfl
@[simp] theorem outOf_nx : outOf (some (.nx e)) = some (.ret .none) := id rfl
@[simp] theorem outOf_ret : outOf (some (.ret d)) = some (.ret d) := id rfl
@[simp] theorem outOf_exc {c} : outOf (some (.exc c e)) = some (.exc c) := id rfl
end
/-! operations -/
section
variable {i j : Int} {x y : PySem.Str} {ds es : List PyData}
@[simp] theorem add_ii : binD .Add (.int i) (.int j) = some (.old (.int (i + j))) := id rfl
@[simp] theorem sub_ii : binD .Sub (.int i) (.int j) = some (.old (.int (i - j))) := id rfl
theorem mul_ii' : binD .Mult (.int i) (.int j) = if mulC i j = true then some (.old (.int (i * j))) else none := rfl
theorem mul_r (h : -(2 ^ 64) < j ∧ j < 2 ^ 64) : binD .Mult (.int i) (.int j) = some (.old (.int (i * j))) := by
  rw [mul_ii', if_pos]; unfold mulC small64; rw [decide_eq_true h]; rfl
theorem mul_l (h : -(2 ^ 64) < i ∧ i < 2 ^ 64) : binD .Mult (.int i) (.int j) = some (.old (.int (i * j))) := by
  rw [mul_ii', if_pos]; unfold mulC small64; rw [decide_eq_true h, Bool.or_true]
theorem div_ii (h : 0 < j ∧ j < 1073741824) : binD .FloorDiv (.int i) (.int j) = some (.old (.int (i / j))) := by
  show (if divC i j = true then _ else _) = _
  rw [if_pos]; exact decide_eq_true h
theorem mod_ii (h : 0 < j) : binD .Mod (.int i) (.int j) = some (.old (.int (i % j))) := by
  show (if modC i j = true then _ else _) = _
  rw [if_pos]; exact decide_eq_true h
theorem pow_ii (h : 0 ≤ j ∧ j ≤ 1000000 ∧ i.natAbs < 2 ^ 64) : binD .Pow (.int i) (.int j) = some (.old (.int (i ^ j.toNat))) := by
  show (if powC i j = true then _ else _) = _
  rw [if_pos]; exact decide_eq_true h
theorem shl_ii (h : 0 ≤ j ∧ j ≤ 1000000 ∧ i.natAbs < 2 ^ 64) : binD .LShift (.int i) (.int j) = some (.old (.int (i * 2 ^ j.toNat))) := by
  show (if powC i j = true then _ else _) = _
  rw [if_pos]; exact decide_eq_true h
theorem shr_ii (h : 0 ≤ j) : binD .RShift (.int i) (.int j) = some (.old (.int (i / 2 ^ j.toNat))) := by
  show (if shrC i j = true then _ else _) = _
  rw [if_pos]; exact decide_eq_true h
@[simp] theorem and_ii : binD .BitAnd (.int i) (.int j) = some (.old (.int (Builtin.bitAnd i j))) := id rfl
@[simp] theorem or_ii : binD .BitOr (.int i) (.int j) = some (.old (.int (Builtin.bitOr i j))) := id rfl
@[simp] theorem xor_ii : binD .BitXor (.int i) (.int j) = some (.old (.int (Builtin.bitXor i j))) := id rfl
theorem cat_tt (h : ds.length + es.length ≤ sizeLine) : binD .Add (.tuple ds) (.tuple es) = some (.newT (ds ++ es)) := by
  show (if _ then _ else _) = _
  rw [if_pos h]
theorem cat_ll (h : ds.length + es.length ≤ sizeLine) : binD .Add (.list ds) (.list es) = some (.newL (ds ++ es)) := by
  show (if _ then _ else _) = _
  rw [if_pos h]
@[simp] theorem lt_ii : cmpD .Lt (.int i) (.int j) = some (.old (.bool (decide (i < j)))) := id rfl
@[simp] theorem le_ii : cmpD .LtE (.int i) (.int j) = some (.old (.bool (decide (i ≤ j)))) := id rfl
@[simp] theorem gt_ii : cmpD .Gt (.int i) (.int j) = some (.old (.bool (decide (j < i)))) := id rfl
@[simp] theorem ge_ii : cmpD .GtE (.int i) (.int j) = some (.old (.bool (decide (j ≤ i)))) := id rfl
@[simp] theorem eq_ii : cmpD .Eq (.int i) (.int j) = some (.old (.bool (decide (i = j)))) := by
  show (if true = true then boolO (PyData.eqv (.int i) (.int j)) else none) = _
  simp only [if_true, boolO, PyData.eqv]
  congr 3
@[simp] theorem ne_ii : cmpD .NotEq (.int i) (.int j) = some (.old (.bool (!decide (i = j)))) := by
  show (if true = true then boolO (!PyData.eqv (.int i) (.int j)) else none) = _
  simp only [if_true, boolO, PyData.eqv]
  congr 3
@[simp] theorem eq_ss : cmpD .Eq (.str x) (.str y) = some (.old (.bool (decide (x = y)))) := by
  show (if true = true then boolO (PyData.eqv (.str x) (.str y)) else none) = _
  simp only [if_true, boolO, PyData.eqv]
  have e : (x == y) = decide (x = y) := by
    by_cases h : x = y
    · simp [h]
    · rw [decide_eq_false h]; exact beq_eq_false_iff_ne.mpr h
  rw [e]
@[simp] theorem ne_ss : cmpD .NotEq (.str x) (.str y) = some (.old (.bool (!decide (x = y)))) := by
  show (if true = true then boolO (!PyData.eqv (.str x) (.str y)) else none) = _
  simp only [if_true, boolO, PyData.eqv]
  have e : (x == y) = decide (x = y) := by
    by_cases h : x = y
    · simp [h]
    · rw [decide_eq_false h]; exact beq_eq_false_iff_ne.mpr h
  rw [e]
@[simp] theorem eq_bb {a b : Bool} : cmpD .Eq (.bool a) (.bool b) = some (.old (.bool (a == b))) := by
  show (if true = true then boolO (PyData.eqv (.bool a) (.bool b)) else none) = _
  simp only [if_true, boolO, PyData.eqv]
@[simp] theorem is_none {d : PyData} : cmpD .Is d .none = some (.old (.bool (isNone d))) := by
  show boolO (false != isNone d) = _
  simp [boolO]
@[simp] theorem isnot_none {d : PyData} : cmpD .IsNot d .none = some (.old (.bool (!isNone d))) := by
  show boolO (true != isNone d) = _
  simp [boolO]
@[simp] theorem isNone_n : isNone .none = true := id rfl
@[simp] theorem isNone_i : isNone (.int i) = false := id rfl
@[simp] theorem isNone_b {b} : isNone (.bool b) = false := id rfl
@[simp] theorem isNone_s : isNone (.str x) = false := id rfl
@[simp] theorem isNone_t : isNone (.tuple ds) = false := id rfl
@[simp] theorem isNone_l : isNone (.list ds) = false := id rfl
@[simp] theorem neg_i : negD (.int i) = some (.old (.int (-i))) := id rfl
@[simp] theorem ix_l : ixD (.list ds) (.int i) = oldO (atI ds i) := id rfl
@[simp] theorem ix_t : ixD (.tuple ds) (.int i) = oldO (atI ds i) := id rfl
@[simp] theorem oldO_s {d : PyData} : oldO (some d) = some (.old d) := id rfl
@[simp] theorem sl_l {lo hi} : slD (.list ds) lo hi = some (.newL (cutP ds lo hi)) := id rfl
@[simp] theorem sl_t {lo hi} : slD (.tuple ds) lo hi = some (.newT (cutP ds lo hi)) := id rfl
@[simp] theorem len_l : Blt.len.run [.list ds] = some (.old (.int ds.length)) := id rfl
@[simp] theorem len_t : Blt.len.run [.tuple ds] = some (.old (.int ds.length)) := id rfl
@[simp] theorem int_i : Blt.int.run [.int i] = some (.old (.int i)) := id rfl
@[simp] theorem int_b {b} : Blt.int.run [.bool b] = some (.old (.int (if b then 1 else 0))) := id rfl
@[simp] theorem abs_i : Blt.abs.run [.int i] = some (.old (.int (if i < 0 then -i else i))) := id rfl
@[simp] theorem max_ii : Blt.max.run [.int i, .int j] = some (.old (.int (max i j))) := id rfl
@[simp] theorem min_ii : Blt.min.run [.int i, .int j] = some (.old (.int (min i j))) := id rfl
@[simp] theorem list_l : Blt.list.run [.list ds] = some (.newL ds) := id rfl
@[simp] theorem list_t : Blt.list.run [.tuple ds] = some (.newL ds) := id rfl
@[simp] theorem tuple_l : Blt.tuple.run [.list ds] = some (.newT ds) := id rfl
@[simp] theorem tuple_t : Blt.tuple.run [.tuple ds] = some (.old (.tuple ds)) := id rfl
theorem boolsOf_map (bs : List Bool) : boolsOf (bs.map .bool) = some bs := by
  induction bs with
  | nil => rfl
  | cons n ns ih => simp [boolsOf, ih]
theorem all_bl (bs : List Bool) : Blt.all.run [.list (bs.map .bool)] = some (.old (.bool (bs.all id))) := by
  show (match boolsOf (bs.map PyData.bool) with | some ns => boolO (ns.all id) | none => none) = _
  rw [boolsOf_map]; rfl
theorem any_bl (bs : List Bool) : Blt.any.run [.list (bs.map .bool)] = some (.old (.bool (bs.any id))) := by
  show (match boolsOf (bs.map PyData.bool) with | some ns => boolO (ns.any id) | none => none) = _
  rw [boolsOf_map]; rfl
theorem sum_il (ns : List Int) : Blt.sum.run [.list (ns.map .int)] = some (.old (.int ns.sum)) := by
  show (match intsOf (ns.map PyData.int) with | some ns => intO ns.sum | none => none) = _
  rw [intsOf_map]; rfl
@[simp] theorem iadd_ii : iaugD .Add (.int i) (.int j) = some (.old (.int (i + j))) := id rfl
@[simp] theorem isub_ii : iaugD .Sub (.int i) (.int j) = some (.old (.int (i - j))) := id rfl
theorem atI_map {α β : Type} (f : α → β) (xs : List α) (i : Int) : atI (xs.map f) i = (atI xs i).map f := by
  unfold atI
  rw [List.length_map]
  cases ixN xs.length i with
  | none => rfl
  | some j => simp
theorem atI_of {α : Type} {xs : List α} {i : Int} (h0 : 0 ≤ i) (h1 : i < xs.length) : atI xs i = some (xs[i.toNat]'(by omega)) := by
  unfold atI ixN
  rw [if_pos h0, if_pos h1]
  simp only [Option.bind_some]
  rw [List.getElem?_eq_getElem]
end
/-! ## loops -/
/-- a loop by what holds between its turns -/
theorem forL_gen {tg : TgF} {body : MS} (I : Nat → Ev → Prop) (Post : So → Prop) : ∀ (ds : List PyData) (k : Nat) (e : Ev), I k e →
    (∀ i d e, ds[i]? = some d → I (k + i) e → ∃ e1 r, tg d e = some e1 ∧ body e1 = some r ∧ (match r with | .nx e2 => I (k + i + 1) e2 | .cnt e2 => I (k + i + 1) e2 | .brk e2 => Post (.nx e2) | .ret d => Post (.ret d) | .exc c e2 => Post (.exc c e2))) →
    (∀ e, I (k + ds.length) e → Post (.nx e)) → ∃ r, forL tg body ds e = some r ∧ Post r
  | [], k, e, h0, _, hd => ⟨_, rfl, hd e h0⟩
  | d :: ds, k, e, h0, hs, hd => by
    obtain ⟨e1, r, h1, h2, h3⟩ := hs 0 d e rfl h0
    unfold forL
    simp only [h1, h2]
    have next : ∀ e2, I (k + 0 + 1) e2 → ∃ r, forL tg body ds e2 = some r ∧ Post r := fun e2 h => by
      refine forL_gen I Post ds (k + 1) e2 h (fun i d e hi hI => ?_) fun e he => hd e ?_
      · have := hs (i + 1) d e (by simpa using hi) (by rw [show k + (i + 1) = k + 1 + i from by omega]; exact hI)
        rw [show k + (i + 1) + 1 = k + 1 + i + 1 from by omega] at this
        exact this
      · rw [List.length_cons, show k + (ds.length + 1) = k + 1 + ds.length from by omega]; exact he
    cases r with
    | nx e2 => exact next e2 h3
    | cnt e2 => exact next e2 h3
    | brk e2 => exact ⟨_, rfl, h3⟩
    | ret d => exact ⟨_, rfl, h3⟩
    | exc c e2 => exact ⟨_, rfl, h3⟩
/-- a loop that folds a state -/
theorem forL_fold {α σ : Type} {tg : TgF} {body : MS} (inj : α → PyData) (mk : σ → Ev) (step : σ → α → σ) (I : σ → Prop) : ∀ (xs : List α) (s : σ), I s →
    (∀ s a, I s → a ∈ xs → I (step s a) ∧ ∃ e1, tg (inj a) (mk s) = some e1 ∧ body e1 = some (.nx (mk (step s a)))) → forL tg body (xs.map inj) (mk s) = some (.nx (mk (xs.foldl step s)))
  | [], s, _, _ => rfl
  | a :: xs, s, h0, hs => by
    obtain ⟨h1, e1, h2, h3⟩ := hs s a h0 List.mem_cons_self
    rw [List.map_cons]
    unfold forL
    simp only [h2, h3]
    exact forL_fold inj mk step I xs (step s a) h1 fun s b hI hb => hs s b hI (List.mem_cons_of_mem _ hb)
theorem whileL_gen {t : M Bool} {body : MS} (I : Ev → Prop) (μ : Ev → Nat) (Post : So → Prop)
    (hs : ∀ e, I e → ∃ b e1, t e = some (.ok b e1) ∧ (b = false → Post (.nx e1)) ∧ (b = true → ∃ r, body e1 = some r ∧ (match r with | .nx e2 => I e2 ∧ μ e2 < μ e | .cnt e2 => I e2 ∧ μ e2 < μ e | .brk e2 => Post (.nx e2) | .ret d => Post (.ret d) | .exc c e2 => Post (.exc c e2)))) :
    ∀ (n : Nat) (e : Ev), I e → μ e < n → ∃ r, whileL t body n e = some r ∧ Post r
  | 0, e, _, h => absurd h (Nat.not_lt_zero _)
  | n + 1, e, h0, hn => by
    obtain ⟨b, e1, h1, h2, h3⟩ := hs e h0
    unfold whileL
    simp only [h1, exK_ok]
    cases b with
    | false => exact ⟨_, rfl, h2 rfl⟩
    | true =>
      obtain ⟨r, h4, h5⟩ := h3 rfl
      simp only [h4, if_true]
      cases r with
      | nx e2 => exact whileL_gen I μ Post hs n e2 h5.1 (by omega)
      | cnt e2 => exact whileL_gen I μ Post hs n e2 h5.1 (by omega)
      | brk e2 => exact ⟨_, rfl, h5⟩
      | ret d => exact ⟨_, rfl, h5⟩
      | exc c e2 => exact ⟨_, rfl, h5⟩
/-! ## comprehensions -/
theorem wipeE_wipeE (e : Ev) (vs : List Nat) : wipeE (wipeE e vs) vs = wipeE e vs := by
  have get : ∀ (e : Ev) (vs : List Nat) (i : Nat), (wipeE e vs)[i]? = if i ∈ vs then (e[i]?).map (fun _ => Slot.und) else e[i]? := by
    intro e vs i
    induction vs with
    | nil => simp [wipeE]
    | cons v vs ih =>
      unfold wipeE
      by_cases h : i = v
      · subst h
        by_cases hl : i < e.length
        · rw [List.getElem?_set_self (by rw [wipeE_length]; exact hl), List.getElem?_eq_getElem hl]; simp
        · rw [List.getElem?_eq_none (by rw [List.length_set, wipeE_length]; omega), List.getElem?_eq_none (by omega)]; simp
      · rw [List.getElem?_set_ne (fun z => h z.symm), ih]
        simp [h]
  apply List.ext_getElem?
  intro i
  rw [get, get]
  by_cases h : i ∈ vs
  · rw [if_pos h, if_pos h]; cases e[i]? <;> rfl
  · rw [if_neg h, if_neg h]
theorem wipeE_getE (e : Ev) (vs : List Nat) (i : Nat) : (wipeE e vs)[i]? = if i ∈ vs then (e[i]?).map (fun _ => Slot.und) else e[i]? := by
  induction vs with
  | nil => simp [wipeE]
  | cons v vs ih =>
    unfold wipeE
    by_cases h : i = v
    · subst h
      by_cases hl : i < e.length
      · rw [List.getElem?_set_self (by rw [wipeE_length]; exact hl), List.getElem?_eq_getElem hl]; simp
      · rw [List.getElem?_eq_none (by rw [List.length_set, wipeE_length]; omega), List.getElem?_eq_none (by omega)]; simp
    · rw [List.getElem?_set_ne (fun z => h z.symm), ih]
      simp [h]
theorem backE_wipe (env e : Ev) (vs : List Nat) : backE env (wipeE e vs) vs = backE env e vs := by
  apply List.ext_getElem?
  intro i
  by_cases hl : i < e.length
  · rw [backE_get env _ i (by rw [wipeE_length]; exact hl), backE_get env e i hl]
    by_cases h : i ∈ vs
    · rw [if_pos h, if_pos h]
    · rw [if_neg h, if_neg h, wipeE_getE, if_neg h]
  · rw [List.getElem?_eq_none (by rw [backE_length, wipeE_length]; omega), List.getElem?_eq_none (by rw [backE_length]; omega)]
/-- a comprehension that keeps its surroundings -/
theorem compL_map {α : Type} {tg : TgF} {test : M Bool} {elt : M PyData} {vs : List Nat} (inj : α → PyData) (p : α → Bool) (f : α → PyData) (w : Ev) : ∀ (xs : List α) (acc : List PyData) (e : Ev), wipeE e vs = w → acc.length + xs.length ≤ sizeLine →
    (∀ a ∈ xs, ∃ e1 e2, tg (inj a) w = some e1 ∧ test e1 = some (.ok (p a) e2) ∧ (p a = false → wipeE e2 vs = w) ∧ (p a = true → ∃ e3, elt e2 = some (.ok (f a) e3) ∧ wipeE e3 vs = w)) →
    ∃ e', compL tg test elt vs (xs.map inj) acc e = some (acc ++ (xs.filter p).map f, e') ∧ wipeE e' vs = w
  | [], acc, e, hw, _, _ => ⟨e, by simp [compL], hw⟩
  | a :: xs, acc, e, hw, hl, hs => by
    obtain ⟨e1, e2, h1, h2, h3, h4⟩ := hs a List.mem_cons_self
    have hs' := fun b hb => hs b (List.mem_cons_of_mem _ hb)
    rw [List.length_cons] at hl
    rw [List.map_cons]
    unfold compL
    simp only [hw, h1, h2]
    cases hp : p a with
    | false =>
      simp only
      obtain ⟨e', k1, k2⟩ := compL_map inj p f w xs acc e2 (h3 hp) (by omega) hs'
      exact ⟨e', by rw [k1, List.filter_cons]; simp [hp], k2⟩
    | true =>
      obtain ⟨e3, h5, h6⟩ := h4 hp
      simp only [h5]
      rw [if_pos (by omega)]
      obtain ⟨e', k1, k2⟩ := compL_map inj p f w xs (acc ++ [f a]) e3 h6 (by rw [List.length_append, List.length_singleton]; omega) hs'
      exact ⟨e', by rw [k1, List.filter_cons]; simp [hp], k2⟩
theorem fComp_map {α : Type} {it : M (List PyData)} {tg : TgF} {test : M Bool} {elt : M PyData} {vs : List Nat} {env e0 : Ev} (inj : α → PyData) (p : α → Bool) (f : α → PyData) (xs : List α) (hi : it env = some (.ok (xs.map inj) e0)) (hl : xs.length ≤ sizeLine)
    (hs : ∀ a ∈ xs, ∃ e1 e2, tg (inj a) (wipeE e0 vs) = some e1 ∧ test e1 = some (.ok (p a) e2) ∧ (p a = false → wipeE e2 vs = wipeE e0 vs) ∧ (p a = true → ∃ e3, elt e2 = some (.ok (f a) e3) ∧ wipeE e3 vs = wipeE e0 vs)) :
    fComp it tg test elt vs env = some (.ok (.list ((xs.filter p).map f), true) (backE e0 e0 vs)) := by
  obtain ⟨e', h1, h2⟩ := compL_map inj p f (wipeE e0 vs) xs [] e0 rfl (by simpa using hl) hs
  unfold fComp
  rw [hi, bnd_ok, h1]
  simp only [List.nil_append]
  rw [← backE_wipe e0 e' vs, h2, backE_wipe]
/-- without a test -/
theorem fComp_all {α : Type} {it : M (List PyData)} {tg : TgF} {elt : M PyData} {vs : List Nat} {env e0 : Ev} (inj : α → PyData) (f : α → PyData) (xs : List α) (hi : it env = some (.ok (xs.map inj) e0)) (hl : xs.length ≤ sizeLine)
    (hs : ∀ a ∈ xs, ∃ e1 e3, tg (inj a) (wipeE e0 vs) = some e1 ∧ elt e1 = some (.ok (f a) e3) ∧ wipeE e3 vs = wipeE e0 vs) :
    fComp it tg mYes elt vs env = some (.ok (.list (xs.map f), true) (backE e0 e0 vs)) := by
  have := fComp_map (test := mYes) inj (fun _ => true) f xs hi hl (fun a ha => by
    obtain ⟨e1, e3, h1, h2, h3⟩ := hs a ha
    exact ⟨e1, e1, h1, rfl, fun h => (by cases h), fun _ => ⟨e3, h2, h3⟩⟩)
  rw [this, List.filter_eq_self.mpr (fun _ _ => rfl)]
theorem sizeLine_val : sizeLine = 16777216 := sizeLine_eq
theorem runFn_eq {P : Prg} {f : Fn} {ds : List PyData} (h : ds.length = f.np) : runFn P f ds = outOf (evSs P f.body (env0 f ds)) := by
  unfold runFn; rw [if_pos h]
/-! dicts -/
def inP (neg : Bool) : Option (Option PyData) → Option Or
  | some r => some (.old (.bool (neg != r.isSome)))
  | none => none
@[simp] theorem inP_s {neg : Bool} {r : Option PyData} : inP neg (some r) = some (.old (.bool (neg != r.isSome))) := id rfl
@[simp] theorem in_dict {u : PyData} {ps : List (PyData × PyData)} : cmpD .In u (.dict ps) = inP false (getP ps u) := by
  show (getP ps u).bind (fun r => boolO (false != r.isSome)) = _
  cases getP ps u <;> rfl
@[simp] theorem nin_dict {u : PyData} {ps : List (PyData × PyData)} : cmpD .NotIn u (.dict ps) = inP true (getP ps u) := by
  show (getP ps u).bind (fun r => boolO (true != r.isSome)) = _
  cases getP ps u <;> rfl
def ixP : Option (Option PyData) → Option Or
  | some (some d) => some (.old d)
  | _ => none
@[simp] theorem ixP_s {d : PyData} : ixP (some (some d)) = some (.old d) := id rfl
@[simp] theorem ix_dict {u : PyData} {ps : List (PyData × PyData)} : ixD (.dict ps) u = ixP (getP ps u) := by
  have e : ixD (.dict ps) u = (getP ps u).bind oldO := by cases u <;> rfl
  rw [e]
  cases getP ps u with
  | none => rfl
  | some r => cases r <;> rfl
@[simp] theorem len_dict {ps : List (PyData × PyData)} : Blt.len.run [.dict ps] = some (.old (.int ps.length)) := id rfl
@[simp] theorem list_dict {ps : List (PyData × PyData)} : Blt.list.run [.dict ps] = some (.newL (ps.map (·.1))) := id rfl
end PyI

namespace PyI
open PySem PySem.Spec L2
/-! ## the helpers that every law has -/
def f_l_mixed : Fn := ⟨["script", "k", "cell", "first", "second", "third"], 2,
  (.cons (.set 2 (.cst (.int 0)))
  (.cons (.ite (.cmp .Gt (.blt .len (.cons (.var 0) .nil)) (.cst (.int 0))) (.cons (.set 2 (.ix (.var 0) (.bin .Mod (.var 1) (.blt .len (.cons (.var 0) .nil)))))
  .nil) .nil)
  (.cons (.set 3 (.bin .Mod (.blt .int (.cons (.bin .Add (.bin .Add (.bin .Mult (.var 2) (.cst (.int 48271))) (.bin .Mult (.var 1) (.cst (.int 69621)))) (.cst (.int 8191))) .nil)) (.cst (.int 2147483647))))
  (.cons (.set 4 (.bin .Mod (.blt .int (.cons (.bin .Add (.bin .Add (.bin .Mult (.var 3) (.var 3)) (.bin .FloorDiv (.var 3) (.cst (.int 7)))) (.bin .Mult (.var 1) (.cst (.int 16807)))) .nil)) (.cst (.int 2147483629))))
  (.cons (.set 5 (.bin .Mod (.blt .int (.cons (.bin .Add (.bin .Add (.bin .Mult (.var 4) (.var 4)) (.bin .FloorDiv (.var 4) (.cst (.int 11)))) (.cst (.int 40692))) .nil)) (.cst (.int 2147483563))))
  (.cons (.ret (.bin .Mod (.bin .FloorDiv (.var 5) (.cst (.int 5))) (.cst (.int 1000003))))
  .nil))))))⟩
def f_l_row : Fn := ⟨["script", "many", "big", "row", "k"], 2,
  (.cons (.set 2 (.cst (.int 0)))
  (.cons (.ite (.and (.cons (.cmp .Gt (.blt .len (.cons (.var 0) .nil)) (.cst (.int 0))) (.cons (.cmp .GtE (.ix (.var 0) (.cst (.int 0))) (.bin .Pow (.cst (.int 10)) (.cst (.int 18)))) .nil))) (.cons (.set 2 (.ix (.var 0) (.cst (.int 0))))
  .nil) .nil)
  (.cons (.set 3 (.lst .nil))
  (.cons (.for (.name 4) (.rng1 (.var 1)) (.cons (.ite (.cmp .Gt (.var 2) (.cst (.int 0))) (.cons (.expr (.app 3 (.bin .Mod (.blt .int (.cons (.var 2) .nil)) (.cst (.int 1000)))))
  (.cons (.set 2 (.bin .FloorDiv (.var 2) (.cst (.int 1000))))
  .nil)) (.cons (.expr (.app 3 (.call "_law_mixed" (.cons (.var 0) (.cons (.var 4) .nil)))))
  .nil))
  .nil))
  (.cons (.ret (.var 3))
  .nil)))))⟩
def f_l_is_int : Fn := ⟨["value"], 1,
  (.cons (.ret (.and (.cons (.isi .int (.var 0)) (.cons (.not (.isi .bool (.var 0))) .nil))))
  .nil)⟩
def f_l_like : Fn := ⟨["value", "due", "k"], 2,
  (.cons (.ite (.cmp .Is (.var 1) (.cst .none)) (.cons (.ret (.cmp .Is (.var 0) (.cst .none)))
  .nil) .nil)
  (.cons (.ite (.isi .bool (.var 1)) (.cons (.ret (.and (.cons (.isi .bool (.var 0)) (.cons (.cmp .Eq (.var 0) (.var 1)) .nil))))
  .nil) .nil)
  (.cons (.ite (.isi .tuple (.var 1)) (.cons (.ite (.or (.cons (.not (.isi .tuple (.var 0))) (.cons (.cmp .NotEq (.blt .len (.cons (.var 0) .nil)) (.blt .len (.cons (.var 1) .nil))) .nil))) (.cons (.ret (.cst (.bool false)))
  .nil) .nil)
  (.cons (.ret (.blt .all (.cons (.comp [("k", 2)] (.name 2) (.rng1 (.blt .len (.cons (.var 1) .nil))) .nil (.call "_law_like" (.cons (.ix (.var 0) (.var 2)) (.cons (.ix (.var 1) (.var 2)) .nil)))) .nil)))
  .nil)) .nil)
  (.cons (.ite (.isi .str (.var 1)) (.cons (.ret (.and (.cons (.isi .str (.var 0)) (.cons (.cmp .Eq (.var 0) (.var 1)) .nil))))
  .nil) .nil)
  (.cons (.ret (.and (.cons (.call "_law_is_int" (.cons (.var 0) .nil)) (.cons (.cmp .Eq (.var 0) (.var 1)) .nil))))
  .nil)))))⟩
def mix3 (cell k : Int) : Int :=
  let first := (cell * 48271 + k * 69621 + 8191) % 2147483647
  let second := (first * first + first / 7 + k * 16807) % 2147483629
  let third := (second * second + second / 11 + 40692) % 2147483563
  third / 5 % 1000003
def cellOf (ns : List Int) (k : Int) : Int := if ns = [] then 0 else ns.getD (k % ns.length).toNat 0
def mixed (ns : List Int) (k : Int) : Int := mix3 (cellOf ns k) k
theorem mixed_range (ns : List Int) (k : Int) : 0 ≤ mixed ns k ∧ mixed ns k < 1000003 := by
  unfold mixed mix3
  exact ⟨Int.emod_nonneg _ (by decide), Int.emod_lt_of_pos _ (by decide)⟩
theorem getD_ok {ns : List Int} {k : Int} (h : ns ≠ []) (hk : 0 ≤ k) : atI (ns.map PyData.int) (k % ns.length) = some (.int (cellOf ns k)) := by
  have hl : 0 < (ns.length : Int) := by
    cases ns with
    | nil => exact absurd rfl h
    | cons a r => simp
  have h1 := Int.emod_nonneg k (b := (ns.length : Int)) (by omega)
  have h2 := Int.emod_lt_of_pos k hl
  rw [atI_map, atI_of h1 h2]
  unfold cellOf
  rw [if_neg h]
  simp [List.getD_eq_getElem?_getD, List.getElem?_eq_getElem (show (k % (ns.length : Int)).toNat < ns.length by omega)]
theorem run_mixed (P : Prg) (ns : List Int) (k : Int) (hk : 0 ≤ k) : runFn P f_l_mixed [scr ns, .int k] = some (.ret (.int (mixed ns k))) := by
  rw [runFn_eq rfl]
  have tail : ∀ cell : Int, outOf (evSs P (match f_l_mixed.body with | .cons _ (.cons _ r) => r | b => b) [.val (scr ns), .val (.int k), .val (.int cell), .und, .und, .und]) = some (.ret (.int (mix3 cell k))) := by
    intro cell
    have b1 := Int.emod_nonneg (cell * 48271 + k * 69621 + 8191) (b := 2147483647) (by decide)
    have b2 := Int.emod_lt_of_pos (cell * 48271 + k * 69621 + 8191) (b := 2147483647) (by decide)
    simp only [mix3]
    simp [f_l_mixed, mul_r, mod_ii, div_ii]
    generalize (cell * 48271 + k * 69621 + 8191) % 2147483647 = first at b1 b2 ⊢
    have m1 := mul_r (i := first) (j := first) ⟨by omega, by omega⟩
    simp [m1, mul_r, mod_ii, div_ii]
    have b3 := Int.emod_nonneg (first * first + first / 7 + k * 16807) (b := 2147483629) (by decide)
    have b4 := Int.emod_lt_of_pos (first * first + first / 7 + k * 16807) (b := 2147483629) (by decide)
    generalize (first * first + first / 7 + k * 16807) % 2147483629 = second at b3 b4 ⊢
    have m2 := mul_r (i := second) (j := second) ⟨by omega, by omega⟩
    simp [m2, mul_r, mod_ii, div_ii]
  by_cases h : ns = []
  · subst h
    rw [show mixed [] k = mix3 0 k from rfl, ← tail 0]
    simp [f_l_mixed, env0]
  · have hl : 0 < ns.length := by
      cases ns with
      | nil => exact absurd rfl h
      | cons a r => simp
    have hg := getD_ok h hk
    rw [show mixed ns k = mix3 (cellOf ns k) k from rfl, ← tail (cellOf ns k)]
    have hm : binD .Mod (.int k) (.int (ns.length : Int)) = _ := mod_ii (by omega)
    simp [f_l_mixed, env0, hm, hl, hg]

/-- the row's cells -/
def Cell (x : Int) : Prop := 0 ≤ x ∧ x < 1000003
def rowBody : ISs := match f_l_row.body with | .cons _ (.cons _ (.cons _ (.cons (.for _ _ b) _))) => b | b => b
def rowEnv (ns : List Int) (many big : Int) (row : List Int) (s : Slot) : Ev := [.val (scr ns), .val (.int many), .val (.int big), .own (row.map .int), s]
theorem row_turn (P P' : Prg) (ns : List Int) (many big : Int) (row : List Int) (k : Int) (hc : P.call "_law_mixed" = some (2, runFn P' f_l_mixed)) (hk : 0 ≤ k) (hl : row.length < sizeLine) :
    ∃ (big' x : Int), Cell x ∧ evSs P rowBody (rowEnv ns many big row (.val (.int k))) = some (.nx (rowEnv ns many big' (row ++ [x]) (.val (.int k)))) := by
  by_cases hb : 0 < big
  · refine ⟨big / 1000, big % 1000, ⟨Int.emod_nonneg _ (by decide), Int.lt_trans (Int.emod_lt_of_pos _ (by decide)) (by decide)⟩, ?_⟩
    simp [rowBody, f_l_row, rowEnv, hb, mod_ii, div_ii, hl]
  · refine ⟨big, mixed ns k, mixed_range _ _, ?_⟩
    have h0 := run_mixed P' ns k hk
    simp [rowBody, f_l_row, rowEnv, hb, hl, hc, h0]

theorem row_loop (P P' : Prg) (ns : List Int) (many big : Int) (hc : P.call "_law_mixed" = some (2, runFn P' f_l_mixed)) : ∀ (ks : List Nat) (big : Int) (row : List Int) (s : Slot), row.length + ks.length ≤ sizeLine → (∀ x ∈ row, Cell x) →
    ∃ (big' : Int) (row' : List Int) (s' : Slot), row'.length = row.length + ks.length ∧ (∀ x ∈ row', Cell x) ∧ forL (gN 4) (evSs P rowBody) (ks.map fun (n : Nat) => PyData.int (0 + n)) (rowEnv ns many big row s) = some (.nx (rowEnv ns many big' row' s'))
  | [], big, row, s, _, h => ⟨big, row, s, rfl, h, rfl⟩
  | k :: ks, big, row, s, hl, h => by
    rw [List.length_cons] at hl
    obtain ⟨big1, x, hx, e⟩ := row_turn P P' ns many big row (0 + (k : Int)) hc (by omega) (by omega)
    obtain ⟨big2, row2, s2, h1, h2, h3⟩ := row_loop P P' ns many big hc ks big1 (row ++ [x]) (.val (.int (0 + (k : Int)))) (by rw [List.length_append, List.length_singleton]; omega) (fun y hy => by
      rcases List.mem_append.mp hy with hy | hy
      · exact h y hy
      · rw [List.mem_singleton.mp hy]; exact hx)
    refine ⟨big2, row2, s2, by rw [h1, List.length_append, List.length_singleton, List.length_cons]; omega, h2, ?_⟩
    rw [List.map_cons, forL]
    have e1 : gN 4 (.int (0 + (k : Int))) (rowEnv ns many big row s) = some (rowEnv ns many big row (.val (.int (0 + (k : Int))))) := rfl
    simp only [e1, e]
    exact h3

theorem row_tail (P P' : Prg) (ns : List Int) (many : Nat) (big : Int) (hc : P.call "_law_mixed" = some (2, runFn P' f_l_mixed)) (hm : many ≤ sizeLine) (hm2 : (many : Int) < 2 ^ 62) :
    ∃ row : List Int, row.length = many ∧ (∀ x ∈ row, Cell x) ∧ outOf (evSs P (match f_l_row.body with | .cons _ (.cons _ r) => r | b => b) [.val (scr ns), .val (.int many), .val (.int big), .und, .und]) = some (.ret (.list (row.map .int))) := by
  obtain ⟨big', row', s', h1, h2, h3⟩ := row_loop P P' ns many big hc (List.range many) big [] .und (by rw [List.length_range]; simpa using hm) (fun x hx => by cases hx)
  refine ⟨row', by simpa using h1, h2, ?_⟩
  have hr : rngI [.val (scr ns), .val (.int many), .val (.int big), .own [], .und] (some [.int (many : Int)]) = _ := rngI_1 (k := (many : Int)) ⟨by omega, hm2⟩
  rw [Int.toNat_natCast] at hr
  simp only [rowBody, f_l_row, rowEnv, List.map_nil] at h3
  simp [f_l_row, hr]
  simp at h3
  rw [h3]
  simp
theorem run_row (P P' : Prg) (ns : List Int) (many : Nat) (hc : P.call "_law_mixed" = some (2, runFn P' f_l_mixed)) (hm : many ≤ 100000) :
    ∃ row : List Int, row.length = many ∧ (∀ x ∈ row, Cell x) ∧ runFn P f_l_row [scr ns, .int many] = some (.ret (.list (row.map .int))) := by
  have hz := sizeLine_val
  rw [runFn_eq rfl]
  have hd : ∃ big : Int, evSs P f_l_row.body (env0 f_l_row [scr ns, .int many]) = evSs P (match f_l_row.body with | .cons _ (.cons _ r) => r | b => b) [.val (scr ns), .val (.int many), .val (.int big), .und, .und] := by
    cases ns with
    | nil => exact ⟨0, by simp [f_l_row, env0]⟩
    | cons a r =>
      have hg : atI (PyData.int a :: r.map PyData.int) 0 = some (.int a) := by
        simp [atI, ixN]
      have hp : binD .Pow (.int 10) (.int 18) = some (.old (.int 1000000000000000000)) := by
        rw [pow_ii ⟨by decide, by decide, by decide⟩]
        rfl
      by_cases ha : (1000000000000000000 : Int) ≤ a
      · exact ⟨a, by simp [f_l_row, env0, hg, hp, ha]⟩
      · exact ⟨0, by simp [f_l_row, env0, hg, hp, ha]⟩
  obtain ⟨big, hd⟩ := hd
  rw [hd]
  exact row_tail P P' ns many big hc (by omega) (by omega)
theorem run_is_int (P : Prg) (d : PyData) (hd : isD .int d ≠ none) : runFn P f_l_is_int [d] = some (.ret (.bool (match d with | .int _ => true | _ => false))) := by
  rw [runFn_eq rfl]
  cases d <;> first | exact absurd rfl hd | simp [f_l_is_int, env0]
/-- values without dicts -/
def plain : PyData → Bool
  | .dict _ => false
  | _ => true

theorem all_rep (n : Nat) : Blt.all.run [.list (List.replicate n (.bool true))] = some (.old (.bool true)) := by
  have e : List.replicate n (PyData.bool true) = (List.replicate n true).map PyData.bool := by simp
  rw [e, all_bl]
  simp
theorem all_const {α : Type} (xs : List α) : Blt.all.run [.list (xs.map fun _ => .bool true)] = some (.old (.bool true)) := by
  have e : xs.map (fun _ => PyData.bool true) = (xs.map fun _ => true).map PyData.bool := by rw [List.map_map]; rfl
  rw [e, all_bl]
  simp
/-- what _law_like looks at: no lists, no dicts; tuples to depth n -/
def likeOk : Nat → PyData → Bool
  | _, .none => true
  | _, .bool _ => true
  | _, .int _ => true
  | _, .str _ => true
  | 0, .tuple _ => false
  | n + 1, .tuple ds => decide (ds.length ≤ 1000000) && ds.all (likeOk n)
  | _, .list _ => false
  | _, .dict _ => false
theorem prg_call {T : Txt} {n : Nat} {x : PySem.Str} {f : Fn} (h : T.fns.lookup x = some f) : (prgAt T (n + 1)).call x = some (f.np, runFn (prgAt T n) f) := by
  show callAt T (n + 1) x = _
  rw [callAt_succ, h]
theorem run_like {T : Txt} (h1 : T.fns.lookup ("_law_like" : PySem.Str) = some f_l_like) (h2 : T.fns.lookup ("_law_is_int" : PySem.Str) = some f_l_is_int) : ∀ (n : Nat) (d : PyData), likeOk n d = true → runFn (prgAt T (n + 1)) f_l_like [d, d] = some (.ret (.bool true)) := by
  have hz := sizeLine_val
  intro n
  induction n with
  | zero =>
    intro d hd
    have c2 := prg_call (n := 0) h2
    rw [runFn_eq rfl]
    cases d <;> first | (cases hd; done) | skip
    · simp [f_l_like, env0]
    · simp [f_l_like, env0]
    · rename_i i
      have k := run_is_int (prgAt T 0) (.int i) (by simp [isD])
      simp [f_l_like, env0, c2, f_l_is_int]
      simp [f_l_is_int] at k
      simp [k]
    · simp [f_l_like, env0]
  | succ n ih =>
    intro d hd
    have c1 := prg_call (n := n + 1) h1
    have c2 := prg_call (n := n + 1) h2
    rw [runFn_eq rfl]
    cases d <;> first | (cases hd; done) | skip
    · simp [f_l_like, env0]
    · simp [f_l_like, env0]
    · rename_i i
      have k := run_is_int (prgAt T (n + 1)) (.int i) (by simp [isD])
      simp [f_l_like, env0, c2, f_l_is_int]
      simp [f_l_is_int] at k
      simp [k]
    · simp [f_l_like, env0]
    · rename_i ds
      have hd2 : ds.length ≤ 1000000 ∧ ∀ d ∈ ds, likeOk n d = true := by
        simpa [likeOk] using hd
      have hr : ∀ e : Ev, rngI e (some [.int (ds.length : Int)]) = some (.ok ((List.range ds.length).map fun (n : Nat) => .int (0 + n)) e) := fun e => by
        have := rngI_1 (e := e) (k := (ds.length : Int)) ⟨by omega, by omega⟩
        rw [Int.toNat_natCast] at this
        exact this
      simp [f_l_like, env0]
      rw [fComp_all (e0 := [.val (.tuple ds), .val (.tuple ds), .und]) (fun (n : Nat) => .int (0 + n)) (fun _ => .bool true) (List.range ds.length) (by simp [hr]) (by rw [List.length_range]; omega) (fun a ha => ?_)]
      · simp [all_const, backE, keepVal]
      · have ha' : a < ds.length := List.mem_range.mp ha
        have hg : atI ds (0 + (a : Int)) = some ds[a] := by
          rw [atI_of (by omega) (by omega)]
          simp
        have k := ih ds[a] (hd2.2 _ (List.getElem_mem ha'))
        refine ⟨_, [.val (.tuple ds), .val (.tuple ds), .val (.int (0 + (a : Int)))], gN_ap, ?_, ?_⟩
        · have e0 : f_l_like.np = 2 := rfl
          simp [c1, e0, wipeE]
          simp at hg
          simp [hg, k]
        · rfl
end PyI
namespace PyI
open PySem PySem.Spec L2
/-! ## what a run comes to -/
def wp (r : Option So) (Q : So → Prop) : Prop := ∃ x, r = some x ∧ Q x
@[simp] theorem wp_some {x Q} : wp (some x) Q ↔ Q x := ⟨fun ⟨_, h, q⟩ => by cases h; exact q, fun h => ⟨_, rfl, h⟩⟩
theorem wp_mono {r Q R} (h : wp r Q) (k : ∀ x, Q x → R x) : wp r R := let ⟨x, e, q⟩ := h; ⟨x, e, k x q⟩
def Nx (R : Ev → Prop) : So → Prop
  | .nx e => R e
  | _ => False
@[simp] theorem Nx_nx {R e} : Nx R (.nx e) ↔ R e := Iff.rfl
def Rt (Q : PyData → Prop) : So → Prop
  | .ret d => Q d
  | .nx _ => Q .none
  | _ => False
@[simp] theorem Rt_ret {Q d} : Rt Q (.ret d) ↔ Q d := Iff.rfl
@[simp] theorem Rt_nx {Q e} : Rt Q (.nx e) ↔ Q .none := Iff.rfl
def Lp (J : Ev → Prop) (Q : So → Prop) : So → Prop
  | .nx e => J e
  | .cnt e => J e
  | .brk e => Q (.nx e)
  | .ret d => Q (.ret d)
  | .exc c e => Q (.exc c e)
@[simp] theorem Lp_nx {J Q e} : Lp J Q (.nx e) ↔ J e := Iff.rfl
@[simp] theorem Lp_cnt {J Q e} : Lp J Q (.cnt e) ↔ J e := Iff.rfl
@[simp] theorem Lp_brk {J Q e} : Lp J Q (.brk e) ↔ Q (.nx e) := Iff.rfl
@[simp] theorem Lp_ret {J Q d} : Lp J Q (.ret d) ↔ Q (.ret d) := Iff.rfl
@[simp] theorem Lp_exc {J Q c e} : Lp J Q (.exc c e) ↔ Q (.exc c e) := Iff.rfl
theorem wp_seq {a : Option So} {k : MS} {Q : So → Prop} (R : Ev → Prop) (h : wp a (Nx R)) (hk : ∀ e, R e → wp (k e) Q) : wp (seqK a k) Q := by
  obtain ⟨x, rfl, q⟩ := h
  cases x <;> first | exact hk _ q | cases q
theorem wp_ite {c : Prop} [Decidable c] {a b : Option So} {Q} : wp (if c then a else b) Q ↔ (c → wp a Q) ∧ (¬ c → wp b Q) := by
  by_cases h : c
  · rw [if_pos h]; exact ⟨fun x => ⟨fun _ => x, fun y => absurd h y⟩, fun x => x.1 h⟩
  · rw [if_neg h]; exact ⟨fun x => ⟨fun y => absurd y h, fun _ => x⟩, fun x => x.2 h⟩
theorem seqK_ite {c : Prop} [Decidable c] {a b : Option So} {k : MS} : seqK (if c then a else b) k = if c then seqK a k else seqK b k := by split <;> rfl
theorem exK_ite {α : Type} {c : Prop} [Decidable c] {a b : Option (Rs α)} {k : α → Ev → Option So} : exK (if c then a else b) k = if c then exK a k else exK b k := by split <;> rfl
theorem bnd_ite {α β : Type} {c : Prop} [Decidable c] {a b : Option (Rs α)} {k : α → Ev → Option (Rs β)} : bnd (if c then a else b) k = if c then bnd a k else bnd b k := by split <;> rfl
def tgOk (r : Option Ev) (Q : Ev → Prop) : Prop := ∃ e, r = some e ∧ Q e
@[simp] theorem tgOk_some {e Q} : tgOk (some e) Q ↔ Q e := ⟨fun ⟨_, h, q⟩ => by cases h; exact q, fun h => ⟨_, rfl, h⟩⟩
/-- a loop over a list, by what holds after each prefix -/
theorem wp_forL {α : Type} {tg : TgF} {body : MS} {inj : α → PyData} {xs : List α} {e : Ev} {Q : So → Prop} (I : List α → Ev → Prop) (h0 : I [] e)
    (hs : ∀ pre a post e, xs = pre ++ a :: post → I pre e → tgOk (tg (inj a) e) fun e1 => wp (body e1) (Lp (I (pre ++ [a])) Q))
    (hd : ∀ e, I xs e → Q (.nx e)) : wp (forL tg body (xs.map inj) e) Q := by
  have go : ∀ (post pre : List α) (e : Ev), xs = pre ++ post → I pre e → wp (forL tg body (post.map inj) e) Q := by
    intro post
    induction post with
    | nil =>
      intro pre e hx hI
      rw [List.append_nil] at hx
      subst hx
      exact ⟨_, rfl, hd e hI⟩
    | cons a post ih =>
      intro pre e hx hI
      obtain ⟨e1, h1, x, h2, h3⟩ := hs pre a post e hx hI
      have next : ∀ e2, I (pre ++ [a]) e2 → wp (forL tg body (post.map inj) e2) Q := fun e2 h => ih (pre ++ [a]) e2 (by rw [hx, List.append_assoc]; rfl) h
      rw [List.map_cons]
      unfold forL
      simp only [h1, h2]
      cases x with
      | nx e2 => exact next e2 h3
      | cnt e2 => exact next e2 h3
      | brk e2 => exact ⟨_, rfl, h3⟩
      | ret d => exact ⟨_, rfl, h3⟩
      | exc c e2 => exact ⟨_, rfl, h3⟩
  exact go xs [] e rfl h0
/-- a loop over range(n), by what holds before each turn -/
theorem wp_forN {tg : TgF} {body : MS} {inj : Nat → PyData} {n : Nat} {e : Ev} {Q : So → Prop} (I : Nat → Ev → Prop) (h0 : I 0 e)
    (hs : ∀ k e, k < n → I k e → tgOk (tg (inj k) e) fun e1 => wp (body e1) (Lp (I (k + 1)) Q))
    (hd : ∀ e, I n e → Q (.nx e)) : wp (forL tg body ((List.range n).map inj) e) Q := by
  refine wp_forL (fun pre e => I pre.length e) h0 (fun pre a post e hx hI => ?_) fun e he => hd e (by rw [List.length_range] at he; exact he)
  have hl : pre.length < n := by
    have := congrArg List.length hx
    rw [List.length_range, List.length_append, List.length_cons] at this
    omega
  have ha : a = pre.length := by
    have := congrArg (fun l => l[pre.length]?) hx
    simp [List.getElem?_range hl] at this
    exact this.symm
  subst ha
  have := hs pre.length e hl hI
  rw [List.length_append, List.length_singleton]
  exact this
/-- what a call returns -/
def runs (P : Prg) (f : Fn) (ds : List PyData) (Q : PyData → Prop) : Prop := ∃ d, runFn P f ds = some (.ret d) ∧ Q d
theorem runs_of {P : Prg} {f : Fn} {ds : List PyData} {Q : PyData → Prop} (hl : ds.length = f.np) (h : wp (evSs P f.body (env0 f ds)) (Rt Q)) : runs P f ds Q := by
  obtain ⟨x, h1, h2⟩ := h
  unfold runs
  rw [runFn_eq hl, h1]
  cases x <;> first | exact ⟨_, rfl, h2⟩ | cases h2
theorem runs_eq {P : Prg} {f : Fn} {ds : List PyData} {d : PyData} (h : runs P f ds (· = d)) : runFn P f ds = some (.ret d) := by
  obtain ⟨_, h, rfl⟩ := h; exact h
theorem rngI_n {e : Ev} {k : Nat} (h : k < 2 ^ 62) : rngI e (some [.int (k : Int)]) = some (.ok ((List.range k).map fun (n : Nat) => .int n) e) := by
  rw [rngI_1 (by omega), Int.toNat_natCast]
  simp
theorem rngI_i {e : Ev} {k : Int} (h : 0 ≤ k ∧ k < 2 ^ 62) : rngI e (some [.int k]) = some (.ok ((List.range k.toNat).map fun (n : Nat) => .int n) e) := by
  rw [rngI_1 (by omega)]
  simp
/-- reading a list of numbers -/
def gt (row : List Int) (i : Int) : Int := row.getD i.toNat 0
theorem rd {row : List Int} {i : Int} (h0 : 0 ≤ i) (h1 : i < row.length) : atI (row.map PyData.int) i = some (.int (gt row i)) := by
  rw [atI_map, atI_of h0 h1]
  unfold gt
  simp [List.getD_eq_getElem?_getD, List.getElem?_eq_getElem (show i.toNat < row.length by omega)]
theorem gt_mem {row : List Int} {i : Int} (h0 : 0 ≤ i) (h1 : i < row.length) : gt row i ∈ row := by
  unfold gt
  rw [List.getD_eq_getElem?_getD, List.getElem?_eq_getElem (show i.toNat < row.length by omega)]
  exact List.getElem_mem _
/-- a row of n cells -/
def Row (n : Nat) (row : List Int) : Prop := row.length = n ∧ ∀ x ∈ row, Cell x
theorem Row.rd {n row} (h : Row n row) {i : Int} (h0 : 0 ≤ i ∧ i < n) : atI (row.map PyData.int) i = some (.int (gt row i)) := PyI.rd h0.1 (by rw [h.1]; exact h0.2)
theorem Row.cell {n row} (h : Row n row) {i : Int} (h0 : 0 ≤ i ∧ i < n) : 0 ≤ gt row i ∧ gt row i < 1000003 := h.2 _ (gt_mem h0.1 (by rw [h.1]; exact h0.2))
theorem run_row' (P P' : Prg) (ns : List Int) (many : Nat) (hc : P.call "_law_mixed" = some (2, runFn P' f_l_mixed)) (hm : many ≤ 100000) :
    ∃ row : List Int, Row many row ∧ runFn P f_l_row [scr ns, .int many] = some (.ret (.list (row.map .int))) := by
  obtain ⟨row, h1, h2, h3⟩ := run_row P P' ns many hc hm
  exact ⟨row, ⟨h1, h2⟩, h3⟩
/-- what an expression comes to -/
def okR {α : Type} (r : Option (Rs α)) (Q : α → Ev → Prop) : Prop := ∃ a e, r = some (.ok a e) ∧ Q a e
@[simp] theorem okR_some {α : Type} {a : α} {e Q} : okR (some (.ok a e)) Q ↔ Q a e := ⟨fun ⟨_, _, h, q⟩ => by cases h; exact q, fun h => ⟨_, _, rfl, h⟩⟩
theorem okR_ite {α : Type} {c : Prop} [Decidable c] {a b : Option (Rs α)} {Q} : okR (if c then a else b) Q ↔ (c → okR a Q) ∧ (¬ c → okR b Q) := by
  by_cases h : c
  · rw [if_pos h]; exact ⟨fun x => ⟨fun _ => x, fun y => absurd h y⟩, fun x => x.1 h⟩
  · rw [if_neg h]; exact ⟨fun x => ⟨fun y => absurd y h, fun _ => x⟩, fun x => x.2 h⟩
theorem fComp_f {α : Type} {it : M (List PyData)} {tg : TgF} {elt : M PyData} {vs : List Nat} {env e0 : Ev} (inj : α → PyData) (f : α → PyData) (xs : List α) (hi : it env = some (.ok (xs.map inj) e0)) (hl : xs.length ≤ sizeLine)
    (hs : ∀ a ∈ xs, tgOk (tg (inj a) (wipeE e0 vs)) fun e1 => okR (elt e1) fun d e3 => d = f a ∧ wipeE e3 vs = wipeE e0 vs) :
    fComp it tg mYes elt vs env = some (.ok (.list (xs.map f), true) (backE e0 e0 vs)) :=
  fComp_all inj f xs hi hl fun a ha => by
    obtain ⟨e1, h1, d, e3, h2, rfl, h3⟩ := hs a ha
    exact ⟨e1, e3, h1, h2, h3⟩
theorem fComp_p {α : Type} {it : M (List PyData)} {tg : TgF} {test : M Bool} {elt : M PyData} {vs : List Nat} {env e0 : Ev} (inj : α → PyData) (p : α → Bool) (f : α → PyData) (xs : List α) (hi : it env = some (.ok (xs.map inj) e0)) (hl : xs.length ≤ sizeLine)
    (hs : ∀ a ∈ xs, tgOk (tg (inj a) (wipeE e0 vs)) fun e1 => okR (test e1) fun b e2 => b = p a ∧ (p a = false → wipeE e2 vs = wipeE e0 vs) ∧ (p a = true → okR (elt e2) fun d e3 => d = f a ∧ wipeE e3 vs = wipeE e0 vs)) :
    fComp it tg test elt vs env = some (.ok (.list ((xs.filter p).map f), true) (backE e0 e0 vs)) :=
  fComp_map inj p f xs hi hl fun a ha => by
    obtain ⟨e1, h1, b, e2, h2, rfl, h3, h4⟩ := hs a ha
    exact ⟨e1, e2, h1, h2, h3, fun h => by obtain ⟨d, e3, h5, rfl, h6⟩ := h4 h; exact ⟨e3, h5, h6⟩⟩
@[simp] theorem wipeE_nil' {e : Ev} : wipeE e [] = e := id rfl
/-- a truth value; a number below m; any number -/
def isB (d : PyData) : Prop := ∃ b, d = .bool b
def inR (m : Int) (d : PyData) : Prop := ∃ a, d = .int a ∧ 0 ≤ a ∧ a < m
def isI (d : PyData) : Prop := ∃ a, d = .int a
@[simp] theorem isB_b {b} : isB (.bool b) := ⟨b, rfl⟩
@[simp] theorem isI_i {a} : isI (.int a) := ⟨a, rfl⟩
@[simp] theorem inR_i {m a} : inR m (.int a) ↔ 0 ≤ a ∧ a < m := ⟨fun ⟨_, h, k⟩ => by cases h; exact k, fun h => ⟨_, rfl, h⟩⟩
/-- a loop over a slot's own list -/
theorem wp_forO {j : Nat} {tg : TgF} {body : MS} {env : Ev} {ds : List PyData} {Q : So → Prop} (hj : env[j]? = some (.ob (.lst ds))) (h : wp (forL tg body ds (env.set j .und)) (Nx fun e => Q (.nx (e.set j (.ob (.lst ds)))))) : wp (sForO j tg body env) Q := by
  obtain ⟨x, h1, h2⟩ := h
  unfold sForO
  rw [hj]
  simp only
  rw [h1]
  cases x with
  | nx e => exact ⟨_, rfl, h2⟩
  | _ => cases h2
theorem cut_map {α : Type} (f : α → PyData) (xs : List α) (lo hi : Option Int) : ∃ ys : List α, cutP (xs.map f) lo hi = ys.map f ∧ ys.length ≤ xs.length ∧ ∀ y ∈ ys, y ∈ xs :=
  ⟨(xs.drop (HT.sIx xs.length 0 lo)).take (HT.sIx xs.length xs.length hi - HT.sIx xs.length 0 lo), by unfold cutP; simp [List.map_take, List.map_drop], by
    rw [List.length_take, List.length_drop]; omega, fun y hy => List.mem_of_mem_drop (List.mem_of_mem_take hy)⟩
theorem prg_call' {T : Txt} {n : Nat} {x : PySem.Str} {f : Fn} {k : Nat} (h : T.fns.lookup x = some f) (hk : f.np = k) : (prgAt T (n + 1)).call x = some (k, runFn (prgAt T n) f) := by
  rw [prg_call h, hk]
@[simp] theorem at_0 {a0 : PyData} {l : List PyData} : atI (a0 :: l) 0 = some a0 := by
  unfold atI ixN
  rw [if_pos (by decide), if_pos (by simp only [List.length_cons]; omega)]
  rfl
@[simp] theorem at_1 {a0 a1 : PyData} {l : List PyData} : atI (a0 :: a1 :: l) 1 = some a1 := by
  unfold atI ixN
  rw [if_pos (by decide), if_pos (by simp only [List.length_cons]; omega)]
  rfl
@[simp] theorem at_2 {a0 a1 a2 : PyData} {l : List PyData} : atI (a0 :: a1 :: a2 :: l) 2 = some a2 := by
  unfold atI ixN
  rw [if_pos (by decide), if_pos (by simp only [List.length_cons]; omega)]
  rfl
@[simp] theorem at_3 {a0 a1 a2 a3 : PyData} {l : List PyData} : atI (a0 :: a1 :: a2 :: a3 :: l) 3 = some a3 := by
  unfold atI ixN
  rw [if_pos (by decide), if_pos (by simp only [List.length_cons]; omega)]
  rfl
@[simp] theorem at_4 {a0 a1 a2 a3 a4 : PyData} {l : List PyData} : atI (a0 :: a1 :: a2 :: a3 :: a4 :: l) 4 = some a4 := by
  unfold atI ixN
  rw [if_pos (by decide), if_pos (by simp only [List.length_cons]; omega)]
  rfl
@[simp] theorem at_5 {a0 a1 a2 a3 a4 a5 : PyData} {l : List PyData} : atI (a0 :: a1 :: a2 :: a3 :: a4 :: a5 :: l) 5 = some a5 := by
  unfold atI ixN
  rw [if_pos (by decide), if_pos (by simp only [List.length_cons]; omega)]
  rfl
@[simp] theorem at_6 {a0 a1 a2 a3 a4 a5 a6 : PyData} {l : List PyData} : atI (a0 :: a1 :: a2 :: a3 :: a4 :: a5 :: a6 :: l) 6 = some a6 := by
  unfold atI ixN
  rw [if_pos (by decide), if_pos (by simp only [List.length_cons]; omega)]
  rfl
@[simp] theorem at_7 {a0 a1 a2 a3 a4 a5 a6 a7 : PyData} {l : List PyData} : atI (a0 :: a1 :: a2 :: a3 :: a4 :: a5 :: a6 :: a7 :: l) 7 = some a7 := by
  unfold atI ixN
  rw [if_pos (by decide), if_pos (by simp only [List.length_cons]; omega)]
  rfl
/-- a choice of values is a value -/
theorem ite_ok {α : Type} {c : Prop} [Decidable c] {a b : α} {e : Ev} : (if c then some (Rs.ok a e) else some (Rs.ok b e)) = some (Rs.ok (if c then a else b) e) := by split <;> rfl
theorem ite_nx {c : Prop} [Decidable c] {a b : Ev} : (if c then some (So.nx a) else some (So.nx b)) = some (So.nx (if c then a else b)) := by split <;> rfl
end PyI

namespace PyI
open PySem PySem.Spec L2
/-! # dicts by typed keys and values -/
structure KeyF {α : Type} (f : α → PyData) (κ : α → DK) : Prop where
  key : ∀ a, dkOf (f a) = some (κ a)
  inj : ∀ a b, κ a = κ b → a = b
  kind : ∀ a b, isN (κ a) = isN (κ b)
section
variable {α β : Type} [DecidableEq α] {f : α → PyData} {κ : α → DK} (g : β → PyData)
def dm (f : α → PyData) (g : β → PyData) (ms : List (α × β)) : List (PyData × PyData) := ms.map fun p => (f p.1, g p.2)
def lk (ms : List (α × β)) (a : α) : Option β := (ms.find? fun p => decide (p.1 = a)).map (·.2)
def pt (ms : List (α × β)) (a : α) (b : β) : List (α × β) := if (lk ms a).isSome = true then ms.map fun p => if p.1 = a then (p.1, b) else p else ms ++ [(a, b)]
theorem dm_nil : dm f g ([] : List (α × β)) = [] := rfl
@[simp] theorem dm_length (ms : List (α × β)) : (dm f g ms).length = ms.length := by simp [dm]
theorem lk_nil {a : α} : lk ([] : List (α × β)) a = none := rfl
theorem lk_cons {p : α × β} {ms : List (α × β)} {a : α} : lk (p :: ms) a = if p.1 = a then some p.2 else lk ms a := by
  unfold lk
  by_cases h : p.1 = a <;> simp [List.find?_cons, h]
theorem lk_isSome {ms : List (α × β)} {a : α} : (lk ms a).isSome = true ↔ a ∈ ms.map (·.1) := by
  induction ms with
  | nil => simp [lk_nil]
  | cons p ms ih =>
    rw [lk_cons]
    by_cases h : p.1 = a
    · simp [h]
    · rw [if_neg h, ih]; simp [Ne.symm h]
theorem lk_none {ms : List (α × β)} {a : α} : lk ms a = none ↔ a ∉ ms.map (·.1) := by
  rw [← lk_isSome]
  cases lk ms a <;> simp
theorem pt_new {ms : List (α × β)} {a : α} (b : β) (h : a ∉ ms.map (·.1)) : pt ms a b = ms ++ [(a, b)] := by
  unfold pt
  rw [if_neg (by rw [lk_isSome]; exact h)]
theorem lk_append {ms ns : List (α × β)} {a : α} : lk (ms ++ ns) a = match lk ms a with | some b => some b | none => lk ns a := by
  induction ms with
  | nil => rfl
  | cons p ms ih =>
    rw [List.cons_append, lk_cons, lk_cons]
    by_cases h : p.1 = a
    · simp [h]
    · rw [if_neg h, if_neg h, ih]
theorem lk_pt (ms : List (α × β)) (a c : α) (b : β) : lk (pt ms a b) c = if c = a then some b else lk ms c := by
  unfold pt
  by_cases h : (lk ms a).isSome = true
  · rw [if_pos h]
    have go : ∀ ms : List (α × β), lk (ms.map fun p => if p.1 = a then (p.1, b) else p) c = if c = a then (lk ms a).map (fun _ => b) else lk ms c := by
      intro ms
      induction ms with
      | nil => simp [lk_nil]
      | cons p ms ih =>
        rw [List.map_cons, lk_cons, lk_cons, lk_cons, ih]
        by_cases h1 : p.1 = a
        · by_cases h2 : c = a
          · simp [h1, h2]
          · simp [h1, h2, Ne.symm h2]
        · by_cases h2 : c = a
          · subst h2; simp [h1]
          · simp [h1, h2]
    rw [go]
    by_cases h2 : c = a
    · rw [if_pos h2, if_pos h2]
      cases hl : lk ms a with
      | none => rw [hl] at h; cases h
      | some _ => rfl
    · rw [if_neg h2, if_neg h2]
  · rw [if_neg h, lk_append]
    have hn : lk ms a = none := by cases hl : lk ms a with
      | none => rfl
      | some _ => rw [hl] at h; exact absurd rfl h
    by_cases h2 : c = a
    · subst h2; rw [hn]; simp [lk_cons]
    · rw [if_neg h2]
      cases lk ms c with
      | some _ => rfl
      | none => simp [lk_cons, lk_nil, Ne.symm h2]
theorem pt_keys (ms : List (α × β)) (a : α) (b : β) (x : α) : x ∈ (pt ms a b).map (·.1) ↔ x = a ∨ x ∈ ms.map (·.1) := by
  rw [← lk_isSome, lk_pt]
  by_cases h : x = a
  · simp [h]
  · rw [if_neg h, lk_isSome]; simp [h]
theorem pt_length (ms : List (α × β)) (a : α) (b : β) : (pt ms a b).length ≤ ms.length + 1 := by
  unfold pt
  split
  · rw [List.length_map]; omega
  · rw [List.length_append, List.length_singleton]; omega
variable (K : KeyF f κ)
include K
theorem kindOk_dm (ms : List (α × β)) (a : α) : kindOk (dm f g ms) (κ a) = true := by
  cases ms with
  | nil => rfl
  | cons p ms => simp [dm, kindOk, K.key, K.kind p.1 a]
theorem lookP_dm (ms : List (α × β)) (a : α) : lookP (dm f g ms) (κ a) = (lk ms a).map g := by
  induction ms with
  | nil => rfl
  | cons p ms ih =>
    rw [lk_cons]
    by_cases h : p.1 = a
    · subst h; simp [dm, lookP, K.key]
    · have hn : κ p.1 ≠ κ a := fun e => h (K.inj _ _ e)
      rw [if_neg h, ← ih]
      simp [dm, lookP, K.key, hn]
theorem getP_dm (ms : List (α × β)) (a : α) : getP (dm f g ms) (f a) = some ((lk ms a).map g) := by
  unfold getP
  rw [K.key]
  simp only [kindOk_dm g K, lookP_dm g K, if_true]
theorem putP_dm (ms : List (α × β)) (a : α) (b : β) : putP (dm f g ms) (κ a) (f a) (g b) = dm f g (pt ms a b) := by
  unfold putP pt
  rw [lookP_dm g K]
  by_cases h : (lk ms a).isSome = true
  · have h' : ((lk ms a).map g).isSome = true := by rw [Option.isSome_map]; exact h
    rw [if_pos h, if_pos h']
    unfold dm
    rw [List.map_map, List.map_map]
    refine List.map_congr_left fun p _ => ?_
    by_cases e : p.1 = a
    · subst e; simp [K.key]
    · have hn : κ p.1 ≠ κ a := fun e' => e (K.inj _ _ e')
      simp [K.key, hn, e]
  · have h' : ¬ ((lk ms a).map g).isSome = true := by rw [Option.isSome_map]; exact h
    rw [if_neg h, if_neg h']
    simp [dm]
end
theorem keyI : KeyF PyData.int (fun i => .k (.inl i)) := ⟨fun _ => rfl, fun a b h => by cases h; rfl, fun _ _ => rfl⟩
/-- tuples of ints as keys -/
def nkI (xs : List Int) : NestedKey := .tup (xs.map .num)
theorem nks_ints : ∀ xs : List Int, nksOf (xs.map PyData.int) = some (xs.map NestedKey.num)
  | [] => rfl
  | x :: xs => by simp [nksOf, nkOf, nks_ints xs]
theorem depth_ints : ∀ xs : List Int, NestedKey.depthAll (xs.map NestedKey.num) = 0
  | [] => rfl
  | x :: xs => by simp [NestedKey.depthAll, NestedKey.depth, depth_ints xs]
theorem dk_ints (xs : List Int) : dkOf (.tuple (xs.map .int)) = some (.n (nkI xs)) := by
  simp [dkOf, dkTup, nks_ints, NestedKey.depth, depth_ints, nkI]
theorem nkI_inj : ∀ {xs ys : List Int}, nkI xs = nkI ys → xs = ys := by
  intro xs ys h
  unfold nkI at h
  injection h with h
  have : ∀ xs ys : List Int, xs.map NestedKey.num = ys.map NestedKey.num → xs = ys := by
    intro xs
    induction xs with
    | nil => intro ys h; cases ys with
      | nil => rfl
      | cons _ _ => simp at h
    | cons x xs ih => intro ys h; cases ys with
      | nil => simp at h
      | cons y ys =>
        simp only [List.map_cons, List.cons.injEq, NestedKey.num.injEq] at h
        rw [h.1, ih ys h.2]
  exact this xs ys h
/-- a type of tuples of ints -/
theorem keyT {α : Type} (e : α → List Int) (he : ∀ a b, e a = e b → a = b) : KeyF (fun a => .tuple ((e a).map .int)) (fun a => .n (nkI (e a))) :=
  ⟨fun a => dk_ints (e a), fun a b h => he a b (nkI_inj (by simpa using h)), fun _ _ => rfl⟩
/-! ## counting -/
theorem nodup_le : ∀ (n : Nat) (l : List Nat), l.Nodup → (∀ x ∈ l, x < n) → l.length ≤ n
  | 0, l, _, h => by
    cases l with
    | nil => simp
    | cons x l => exact absurd (h x List.mem_cons_self) (Nat.not_lt_zero _)
  | n + 1, l, hn, h => by
    have h1 : (l.filter (· ≠ n)).length ≤ n := nodup_le n _ (hn.filter _) fun x hx => by
      rw [List.mem_filter] at hx
      have := h x hx.1
      have := of_decide_eq_true hx.2
      omega
    have h2 : l.length ≤ (l.filter (· ≠ n)).length + 1 := by
      have : ∀ l : List Nat, l.Nodup → l.length ≤ (l.filter (· ≠ n)).length + 1 := by
        intro l
        induction l with
        | nil => simp
        | cons x l ih =>
          intro hn
          rw [List.nodup_cons] at hn
          by_cases e : x = n
          · subst e
            have : l.filter (· ≠ x) = l := by
              rw [List.filter_eq_self]
              intro y hy
              exact decide_eq_true fun e => hn.1 (e ▸ hy)
            rw [List.filter_cons_of_neg (by simp), this]
            simp
          · rw [List.filter_cons_of_pos (by simpa using e)]
            simp only [List.length_cons]
            have := ih hn.2
            omega
      exact this l hn
    omega
theorem nodup_enc {α : Type} (enc : α → Nat) (n : Nat) (l : List α) (hn : l.Nodup) (h : ∀ x ∈ l, enc x < n) (inj : ∀ x ∈ l, ∀ y ∈ l, enc x = enc y → x = y) : l.length ≤ n := by
  have : (l.map enc).Nodup := by
    induction l with
    | nil => simp
    | cons x l ih =>
      rw [List.nodup_cons] at hn
      rw [List.map_cons, List.nodup_cons]
      refine ⟨fun hm => ?_, ih hn.2 (fun y hy => h y (List.mem_cons_of_mem _ hy)) fun y hy z hz => inj y (List.mem_cons_of_mem _ hy) z (List.mem_cons_of_mem _ hz)⟩
      obtain ⟨y, hy, e⟩ := List.mem_map.mp hm
      have := inj y (List.mem_cons_of_mem _ hy) x List.mem_cons_self e
      subst this
      exact hn.1 hy
  have h2 := nodup_le n _ this fun z hz => by
    obtain ⟨y, hy, rfl⟩ := List.mem_map.mp hz
    exact h y hy
  rwa [List.length_map] at h2
/-- x in xs, of a list or a tuple of tuples that lay by a one-to-one writing -/
theorem anyEq_map {α : Type} [DecidableEq α] (f : α → PyData) (hf : ∀ a b, PyData.eqv (f a) (f b) = decide (a = b)) (xs : List α) (a : α) : ((xs.map f).any fun z => PyData.eqv z (f a)) = decide (a ∈ xs) := by
  induction xs with
  | nil => simp
  | cons x xs ih =>
    rw [List.map_cons, List.any_cons, ih, hf]
    by_cases e : x = a
    · simp [e]
    · by_cases h : a ∈ xs
      · simp [h]
      · simp [e, h, Ne.symm e]
theorem in_map {α : Type} [DecidableEq α] (f : α → PyData) (hf : ∀ a b, PyData.eqv (f a) (f b) = decide (a = b)) (hs : ∀ a, SeqAt.shaped (f a) = true) (xs : List α) (a : α) :
    cmpD .In (f a) (.list (xs.map f)) = some (.old (.bool (decide (a ∈ xs)))) ∧ cmpD .NotIn (f a) (.list (xs.map f)) = some (.old (.bool (!decide (a ∈ xs)))) ∧ cmpD .In (f a) (.tuple (xs.map f)) = some (.old (.bool (decide (a ∈ xs)))) ∧ cmpD .NotIn (f a) (.tuple (xs.map f)) = some (.old (.bool (!decide (a ∈ xs)))) := by
  have hl : ∀ xs : List α, PyData.canLayAll0 (xs.map f) = true := by
    intro xs
    induction xs with
    | nil => rfl
    | cons x xs ih => simp [PyData.canLayAll0, ih, canLay_of (hs x)]
  have hk : inOk (f a) (xs.map f) = true := by simp [inOk, hs a, hl xs]
  have e1 : ∀ neg, inD neg (f a) (.list (xs.map f)) = boolO (neg != decide (a ∈ xs)) := fun neg => by
    show (if inOk (f a) (xs.map f) = true then _ else _) = _
    rw [if_pos hk, anyEq_map f hf]
  have e2 : ∀ neg, inD neg (f a) (.tuple (xs.map f)) = boolO (neg != decide (a ∈ xs)) := fun neg => by
    show (if inOk (f a) (xs.map f) = true then _ else _) = _
    rw [if_pos hk, anyEq_map f hf]
  refine ⟨(e1 false).trans ?_, (e1 true).trans ?_, (e2 false).trans ?_, (e2 true).trans ?_⟩ <;> (cases decide (a ∈ xs) <;> rfl)
end PyI
namespace PyI
open PySem PySem.Spec L2
/-- a suite that may return -/
def NxR (R : Ev → Prop) (Q : So → Prop) : So → Prop
  | .nx e => R e
  | .ret d => Q (.ret d)
  | .exc c e => Q (.exc c e)
  | .brk e => Q (.brk e)
  | .cnt e => Q (.cnt e)
@[simp] theorem NxR_nx {R Q e} : NxR R Q (.nx e) ↔ R e := Iff.rfl
@[simp] theorem NxR_ret {R Q d} : NxR R Q (.ret d) ↔ Q (.ret d) := Iff.rfl
@[simp] theorem NxR_brk {R Q e} : NxR R Q (.brk e) ↔ Q (.brk e) := Iff.rfl
@[simp] theorem NxR_cnt {R Q e} : NxR R Q (.cnt e) ↔ Q (.cnt e) := Iff.rfl
theorem wp_seqR {a : Option So} {k : MS} {Q : So → Prop} (R : Ev → Prop) (h : wp a (NxR R Q)) (hk : ∀ e, R e → wp (k e) Q) : wp (seqK a k) Q := by
  obtain ⟨x, rfl, q⟩ := h
  cases x with
  | nx e => exact hk _ q
  | ret d => exact ⟨_, rfl, q⟩
  | exc c e => exact ⟨_, rfl, q⟩
  | brk e => exact ⟨_, rfl, q⟩
  | cnt e => exact ⟨_, rfl, q⟩
end PyI

namespace PyI
open PySem PySem.Spec L2
theorem compL2_map {α β : Type} {tg tg1 : TgF} {it1 : M (List PyData)} {test1 : M Bool} {elt : M PyData} {vs vs1 : List Nat} (hv : ∀ i ∈ vs1, i ∈ vs) (inj : α → PyData) (ys : α → List β) (injb : α → β → PyData) (p : α → β → Bool) (f : α → β → PyData) (w : Ev) (Bd : Nat) : ∀ (xs : List α) (acc : List PyData) (e : Ev), wipeE e vs = w → acc.length + xs.length * Bd ≤ sizeLine →
    (∀ a ∈ xs, (ys a).length ≤ Bd ∧ ∃ e1 e2, tg (inj a) w = some e1 ∧ it1 e1 = some (.ok ((ys a).map (injb a)) e2) ∧ wipeE e2 vs = w ∧
      ∀ b ∈ ys a, ∃ e3 e4, tg1 (injb a b) (wipeE e2 vs1) = some e3 ∧ test1 e3 = some (.ok (p a b) e4) ∧ (p a b = false → wipeE e4 vs1 = wipeE e2 vs1) ∧ (p a b = true → ∃ e5, elt e4 = some (.ok (f a b) e5) ∧ wipeE e5 vs1 = wipeE e2 vs1)) →
    ∃ e', compL2 tg it1 tg1 test1 elt vs vs1 (xs.map inj) acc e = some (acc ++ xs.flatMap (fun a => ((ys a).filter (p a)).map (f a)), e') ∧ wipeE e' vs = w
  | [], acc, e, hw, _, _ => ⟨e, by simp [compL2], hw⟩
  | a :: xs, acc, e, hw, hl, hs => by
    obtain ⟨hb, e1, e2, h1, h2, h3, h4⟩ := hs a List.mem_cons_self
    have hl' : acc.length + (xs.length * Bd + Bd) ≤ sizeLine := by rw [List.length_cons, Nat.succ_mul] at hl; exact hl
    have hf : (((ys a).filter (p a)).map (f a)).length ≤ Bd := by
      rw [List.length_map]
      exact Nat.le_trans (List.length_filter_le _ _) hb
    obtain ⟨e3, k1, k2⟩ := compL_map (injb a) (p a) (f a) (wipeE e2 vs1) (ys a) acc e2 rfl (by omega) h4
    have k3 : wipeE e3 vs = w := by rw [← wipeE_sub e3 hv, k2, wipeE_sub e2 hv, h3]
    obtain ⟨e', q1, q2⟩ := compL2_map hv inj ys injb p f w Bd xs (acc ++ ((ys a).filter (p a)).map (f a)) e3 k3 (by rw [List.length_append]; omega) fun b hb => hs b (List.mem_cons_of_mem _ hb)
    refine ⟨e', ?_, q2⟩
    rw [List.map_cons]
    unfold compL2
    simp only [hw, h1, h2, k1, q1]
    rw [List.flatMap_cons, List.append_assoc]
theorem fComp2_map {α β : Type} {it it1 : M (List PyData)} {tg tg1 : TgF} {test1 : M Bool} {elt : M PyData} {vs vs1 : List Nat} {env e0 : Ev} (hv : ∀ i ∈ vs1, i ∈ vs) (inj : α → PyData) (ys : α → List β) (injb : α → β → PyData) (p : α → β → Bool) (f : α → β → PyData) (Bd : Nat) (xs : List α) (hi : it env = some (.ok (xs.map inj) e0)) (hl : xs.length * Bd ≤ sizeLine)
    (hs : ∀ a ∈ xs, (ys a).length ≤ Bd ∧ ∃ e1 e2, tg (inj a) (wipeE e0 vs) = some e1 ∧ it1 e1 = some (.ok ((ys a).map (injb a)) e2) ∧ wipeE e2 vs = wipeE e0 vs ∧
      ∀ b ∈ ys a, ∃ e3 e4, tg1 (injb a b) (wipeE e2 vs1) = some e3 ∧ test1 e3 = some (.ok (p a b) e4) ∧ (p a b = false → wipeE e4 vs1 = wipeE e2 vs1) ∧ (p a b = true → ∃ e5, elt e4 = some (.ok (f a b) e5) ∧ wipeE e5 vs1 = wipeE e2 vs1)) :
    fComp2 it tg it1 tg1 test1 elt vs vs1 env = some (.ok (.list (xs.flatMap fun a => ((ys a).filter (p a)).map (f a)), true) (backE e0 e0 vs)) := by
  obtain ⟨e', h1, h2⟩ := compL2_map hv inj ys injb p f (wipeE e0 vs) Bd xs [] e0 rfl (by simpa using hl) hs
  unfold fComp2
  rw [hi, bnd_ok, h1]
  simp only [List.nil_append]
  rw [← backE_wipe e0 e' vs, h2, backE_wipe]
theorem dcL_map {α κ β : Type} [DecidableEq κ] {kf : κ → PyData} {κd : κ → DK} {g : β → PyData} (K : KeyF kf κd) {tg : TgF} {fk fv : M PyData} {vs : List Nat} (inj : α → PyData) (k : α → κ) (v : α → β) (w : Ev) : ∀ (xs : List α) (ms : List (κ × β)) (e : Ev), wipeE e vs = w → ms.length + xs.length < sizeLine →
    (∀ a ∈ xs, ∃ e1 e2 e3, tg (inj a) w = some e1 ∧ fk e1 = some (.ok (kf (k a)) e2) ∧ fv e2 = some (.ok (g (v a)) e3) ∧ wipeE e3 vs = w) →
    ∃ e', dcL tg fk fv vs (xs.map inj) (dm kf g ms) e = some (dm kf g (xs.foldl (fun ms a => pt ms (k a) (v a)) ms), e') ∧ wipeE e' vs = w
  | [], ms, e, hw, _, _ => ⟨e, by simp [dcL], hw⟩
  | a :: xs, ms, e, hw, hl, hs => by
    obtain ⟨e1, e2, e3, h1, h2, h3, h4⟩ := hs a List.mem_cons_self
    rw [List.length_cons] at hl
    have hp := pt_length ms (k a) (v a)
    obtain ⟨e', q1, q2⟩ := dcL_map K inj k v w xs (pt ms (k a) (v a)) e3 h4 (by omega) fun b hb => hs b (List.mem_cons_of_mem _ hb)
    refine ⟨e', ?_, q2⟩
    rw [List.map_cons]
    unfold dcL
    simp only [hw, h1, h2, h3, K.key]
    rw [if_pos ⟨kindOk_dm g K ms (k a), by simp [dm]; omega⟩, putP_dm g K ms (k a) (v a), q1]
    rfl
theorem fDcomp_map {α κ β : Type} [DecidableEq κ] {kf : κ → PyData} {κd : κ → DK} {g : β → PyData} (K : KeyF kf κd) {it : M (List PyData)} {tg : TgF} {fk fv : M PyData} {vs : List Nat} {env e0 : Ev} (inj : α → PyData) (k : α → κ) (v : α → β) (xs : List α) (hi : it env = some (.ok (xs.map inj) e0)) (hl : xs.length < sizeLine)
    (hs : ∀ a ∈ xs, ∃ e1 e2 e3, tg (inj a) (wipeE e0 vs) = some e1 ∧ fk e1 = some (.ok (kf (k a)) e2) ∧ fv e2 = some (.ok (g (v a)) e3) ∧ wipeE e3 vs = wipeE e0 vs) :
    fDcomp it tg fk fv vs env = some (.ok (.dict (dm kf g (xs.foldl (fun ms a => pt ms (k a) (v a)) [])), true) (backE e0 e0 vs)) := by
  obtain ⟨e', h1, h2⟩ := dcL_map K inj k v (wipeE e0 vs) xs [] e0 rfl (by simpa using hl) hs
  unfold fDcomp
  rw [hi, bnd_ok]
  rw [dm_nil] at h1
  rw [h1]
  simp only
  rw [← backE_wipe e0 e' vs, h2, backE_wipe]
theorem fold_keys {α κ β : Type} [DecidableEq κ] (k : α → κ) (v : α → β) : ∀ (xs : List α) (ms : List (κ × β)) (x : κ), x ∈ (xs.foldl (fun ms a => pt ms (k a) (v a)) ms).map (·.1) ↔ x ∈ ms.map (·.1) ∨ ∃ a ∈ xs, x = k a
  | [], ms, x => by simp
  | a :: xs, ms, x => by
    rw [List.foldl_cons, fold_keys k v xs, pt_keys]
    simp only [List.mem_cons]
    constructor
    · rintro ((h | h) | ⟨b, h1, h2⟩)
      · exact .inr ⟨a, .inl rfl, h⟩
      · exact .inl h
      · exact .inr ⟨b, .inr h1, h2⟩
    · rintro (h | ⟨b, rfl | h1, h2⟩)
      · exact .inl (.inr h)
      · exact .inl (.inl h2)
      · exact .inr ⟨b, h1, h2⟩
/-! ## pairs of ints -/
abbrev Pi := Int × Int
def piD (p : Pi) : PyData := .tuple [.int p.1, .int p.2]
theorem keyPi : KeyF piD (fun p : Pi => .n (nkI [p.1, p.2])) := keyT (fun p : Pi => [p.1, p.2]) fun a b h => by
  obtain ⟨a1, a2⟩ := a
  obtain ⟨b1, b2⟩ := b
  simp only [List.cons.injEq, and_true] at h
  obtain ⟨h1, h2⟩ := h
  rw [h1, h2]
def lexP (a b : Pi) : Prop := a.1 < b.1 ∨ a.1 = b.1 ∧ a.2 ≤ b.2
theorem sorted_pi (rs : List Pi) : ∃ qs : List Pi, qs.Perm rs ∧ qs.Pairwise lexP ∧ Blt.sorted.run [.list (rs.map piD)] = some (.newL (qs.map piD)) := by
  obtain ⟨qs, hp, he⟩ := perm_lift (f := piD) (sortK_perm (rs.map piD)) rs rfl
  have hs := sortK_sorted (rs.map piD)
  rw [← he] at hs
  refine ⟨qs, hp, ?_, ?_⟩
  · rw [List.pairwise_map] at hs
    refine hs.imp fun {a b} h => ?_
    have h : HT.lexLt [b.1, b.2] [a.1, a.2] = false := h
    unfold lexP
    rw [HT.lexLt_cons, HT.lexLt_cons, HT.lexLt_nil_nil] at h
    by_cases e1 : b.1 = a.1
    · rw [if_pos e1] at h
      by_cases e2 : b.2 = a.2
      · omega
      · rw [if_neg e2] at h
        have := of_decide_eq_false h
        omega
    · rw [if_neg e1] at h
      have := of_decide_eq_false h
      omega
  rw [he]
  cases rs with
  | nil => rfl
  | cons r rs =>
    have hk : keysOk ((r :: rs).map piD) = true := by
      show shapeAll (piD r :: rs.map piD) (keyD (piD r)) = true
      show ((piD r :: rs.map piD).all fun e => decide ((keyD e).map (·.1) = some (0 :: [0]))) = true
      rw [List.all_eq_true]
      intro d hd
      obtain ⟨q, _, rfl⟩ := List.mem_map.mp (show d ∈ (r :: rs).map piD from hd)
      rfl
    show (match intsOf ((r :: rs).map piD) with | some ns => some (Or.newL ((sortI ns).map .int)) | none => if keysOk ((r :: rs).map piD) = true then some (Or.newL (sortK ((r :: rs).map piD))) else sortAD ((r :: rs).map piD)) = _
    rw [hk]
    rfl
/-! ## bits -/
def bt (m : Int) (b : Nat) : Bool := m.toNat.testBit b
theorem bt_div {m : Int} (hm : 0 ≤ m) (b : Nat) : m / 2 ^ b % 2 = if bt m b = true then 1 else 0 := by
  obtain ⟨n, rfl⟩ := Int.eq_ofNat_of_zero_le hm
  unfold bt
  rw [Int.toNat_natCast, Nat.testBit_eq_decide_div_mod_eq]
  have e : (n : Int) / 2 ^ b % 2 = ((n / 2 ^ b % 2 : Nat) : Int) := by push_cast; rfl
  rw [e]
  rcases Nat.mod_two_eq_zero_or_one (n / 2 ^ b) with h | h <;> rw [h] <;> rfl
theorem bt_or {a b : Int} (ha : 0 ≤ a) (hb : 0 ≤ b) (i : Nat) : bt (Builtin.bitOr a b) i = (bt a i || bt b i) := by
  obtain ⟨m, rfl⟩ := Int.eq_ofNat_of_zero_le ha
  obtain ⟨n, rfl⟩ := Int.eq_ofNat_of_zero_le hb
  have e : Builtin.bitOr (m : Int) (n : Int) = ((m ||| n : Nat) : Int) := by
    rw [PyProof.Rows.bitOr_and, PyProof.Rows.bitAnd_pp (Int.natCast_nonneg _) (Int.natCast_nonneg _)]
    have := PyProof.Rows.nat_or_add_and m n
    simp only [Int.toNat_natCast]
    omega
  unfold bt
  rw [e, Int.toNat_natCast, Int.toNat_natCast, Int.toNat_natCast, Nat.testBit_or]
theorem bt_pow (k i : Nat) : bt (2 ^ k) i = decide (k = i) := by
  unfold bt
  have e : ((2 : Int) ^ k).toNat = 2 ^ k := by
    have : ((2 : Int) ^ k) = ((2 ^ k : Nat) : Int) := by push_cast; rfl
    rw [this, Int.toNat_natCast]
  rw [e, Nat.testBit_two_pow]
end PyI
namespace PyI
open PySem PySem.Spec L2
/-! ## pairs of small numbers; bits of numbers -/
theorem eqv_pp (a b : Nat × Nat) : PyData.eqv (ppD a) (ppD b) = decide (a = b) := by
  obtain ⟨a1, a2⟩ := a
  obtain ⟨b1, b2⟩ := b
  have e1 : ∀ x y : Int, PyData.eqv (.int x) (.int y) = decide (x = y) := fun x y => by simp [PyData.eqv]; rfl
  have h : PyData.eqv (ppD (a1, a2)) (ppD (b1, b2)) = (decide ((a1 : Int) = b1) && decide ((a2 : Int) = b2)) := by
    show PyData.eqv (.tuple [.int a1, .int a2]) (.tuple [.int b1, .int b2]) = _
    simp [PyData.eqv, PyData.eqvAll, e1]
    rfl
  rw [h]
  by_cases h1 : a1 = b1 <;> by_cases h2 : a2 = b2 <;> simp [h1, h2] <;> omega
def in_pp (xs : List (Nat × Nat)) (a : Nat × Nat) := in_map ppD eqv_pp (fun _ => rfl) xs a
theorem keyPp : KeyF ppD (fun p : Nat × Nat => .n (nkI [(p.1 : Int), (p.2 : Int)])) := ⟨fun p => dk_ints [(p.1 : Int), (p.2 : Int)], fun a b h => by
  have := nkI_inj (show nkI [(a.1 : Int), (a.2 : Int)] = nkI [(b.1 : Int), (b.2 : Int)] by simpa using h)
  simp only [List.cons.injEq, and_true] at this
  exact Prod.ext (by omega) (by omega), fun _ _ => rfl⟩
def niD (n : Nat) : PyData := .int (n : Int)
theorem eqv_ni (a b : Nat) : PyData.eqv (niD a) (niD b) = decide (a = b) := by
  have e1 : ∀ x y : Int, PyData.eqv (.int x) (.int y) = decide (x = y) := fun x y => by simp [PyData.eqv]; rfl
  unfold niD
  rw [e1]
  by_cases h : a = b <;> simp [h] <;> omega
def in_ni (xs : List Nat) (a : Nat) := in_map niD eqv_ni (fun _ => rfl) xs a
theorem bitT (m k : Nat) : Builtin.bitAnd ((m : Int) / 2 ^ k) 1 = if m.testBit k = true then 1 else 0 := by
  rw [PyProof.Rows.bitAnd_m1, Nat.testBit_eq_decide_div_mod_eq]
  have e : (m : Int) / 2 ^ k % 2 = ((m / 2 ^ k % 2 : Nat) : Int) := by push_cast; rfl
  rw [e]
  rcases Nat.mod_two_eq_zero_or_one (m / 2 ^ k) with h | h <;> rw [h] <;> rfl
theorem bitM (m k : Nat) : (m : Int) / 2 ^ k % 2 = if m.testBit k = true then 1 else 0 := by
  rw [← bitT, PyProof.Rows.bitAnd_m1]
theorem bitO (m n : Nat) : Builtin.bitOr (m : Int) (n : Int) = ((m ||| n : Nat) : Int) := by
  rw [PyProof.Rows.bitOr_and, PyProof.Rows.bitAnd_pp (Int.natCast_nonneg _) (Int.natCast_nonneg _)]
  have := PyProof.Rows.nat_or_add_and m n
  simp only [Int.toNat_natCast]
  omega
theorem shr_kn (h k : Nat) : binD .RShift (.int (h : Int)) (.int (k : Int)) = some (.old (.int ((h : Int) / 2 ^ k))) := by
  rw [shr_ii (by omega), Int.toNat_natCast]
theorem shl_1k (k : Nat) (hk : k ≤ 1000) : binD .LShift (.int 1) (.int (k : Int)) = some (.old (.int ((2 ^ k : Nat) : Int))) := by
  rw [shl_ii ⟨by omega, by omega, by decide⟩, Int.toNat_natCast]
  push_cast
  simp
theorem or_low {m k : Nat} (h : m.testBit k = false) : m ||| 2 ^ k = m + 2 ^ k := by
  apply Nat.eq_of_testBit_eq
  intro i
  rw [Nat.testBit_or, Nat.testBit_two_pow]
  by_cases e : k = i
  · subst e
    rw [Nat.add_comm, Nat.testBit_two_pow_add_eq, h]
    simp
  · rcases Nat.lt_or_gt_of_ne e with hlt | hgt
    · have e1 : (m + 2 ^ k).testBit i = m.testBit i := by
        rw [Nat.testBit_eq_decide_div_mod_eq, Nat.testBit_eq_decide_div_mod_eq] at *
        have hm : m / 2 ^ k % 2 = 0 := by
          have := of_decide_eq_false h
          omega
        have hp : 2 ^ i = 2 ^ (k + 1) * 2 ^ (i - (k + 1)) := by rw [← Nat.pow_add]; congr 1; omega
        have h1 : m / 2 ^ (k + 1) = (m + 2 ^ k) / 2 ^ (k + 1) := by
          have e2 : m / 2 ^ (k + 1) = m / 2 ^ k / 2 := by rw [Nat.pow_succ, Nat.div_div_eq_div_mul]
          have e3 : (m + 2 ^ k) / 2 ^ (k + 1) = (m + 2 ^ k) / 2 ^ k / 2 := by rw [Nat.pow_succ, Nat.div_div_eq_div_mul]
          rw [e2, e3, Nat.add_div_right _ (Nat.two_pow_pos k)]
          omega
        rw [hp, ← Nat.div_div_eq_div_mul, ← Nat.div_div_eq_div_mul, h1]
      rw [e1]
      simp [e]
    · have e1 : (m + 2 ^ k).testBit i = m.testBit i := by
        have : m + 2 ^ k = 2 ^ i * (2 ^ (k - i)) + m := by rw [← Nat.pow_add, Nat.add_sub_cancel' (Nat.le_of_lt hgt), Nat.add_comm]
        rw [this]
        rw [Nat.testBit_eq_decide_div_mod_eq, Nat.testBit_eq_decide_div_mod_eq, Nat.mul_add_div (Nat.two_pow_pos i)]
        have e5 : 2 ^ (k - i) = 2 * 2 ^ (k - i - 1) := by rw [← Nat.pow_succ']; congr 1; omega
        rw [e5]
        congr 2
        omega
      rw [e1]
      simp [e]
end PyI
namespace PyI
open PySem PySem.Spec L2
/-! ## the stuck computation comes first -/
theorem bnd_bnd {α β γ : Type} {x : Option (Rs α)} {f : α → Ev → Option (Rs β)} {g : β → Ev → Option (Rs γ)} : bnd (bnd x f) g = bnd x fun a e => bnd (f a e) g := by
  rcases x with _ | _ | _ <;> rfl
theorem exK_bnd {α β : Type} {x : Option (Rs α)} {f : α → Ev → Option (Rs β)} {g : β → Ev → Option So} : exK (bnd x f) g = exK x fun a e => exK (f a e) g := by
  rcases x with _ | _ | _ <;> rfl
theorem seqK_exK {α : Type} {x : Option (Rs α)} {f : α → Ev → Option So} {k : MS} : seqK (exK x f) k = exK x fun a e => seqK (f a e) k := by
  rcases x with _ | _ | _ <;> rfl
theorem wp_exK {α : Type} {x : Option (Rs α)} {k : α → Ev → Option So} {a : α} {e : Ev} {Q : So → Prop} (h : x = some (.ok a e)) (q : wp (k a e) Q) : wp (exK x k) Q := by
  rw [h]; exact q
theorem okR_bnd {α β : Type} {x : Option (Rs α)} {k : α → Ev → Option (Rs β)} {a : α} {e : Ev} {Q : β → Ev → Prop} (h : x = some (.ok a e)) (q : okR (k a e) Q) : okR (bnd x k) Q := by
  rw [h]; exact q
abbrev niD' (n : Nat) : PyData := .int (n : Int)
theorem atN {R : List Nat} {k : Nat} (h : k < R.length) : atI (R.map fun n : Nat => PyData.int (n : Int)) (k : Int) = some (.int ((R.getD k 0 : Nat) : Int)) := by
  rw [atI_map, atI_of (by omega) (by omega)]
  simp [List.getD_eq_getElem?_getD, List.getElem?_eq_getElem h]
theorem atB {R : List Bool} {k : Nat} (h : k < R.length) : atI (R.map PyData.bool) (k : Int) = some (.bool (R.getD k false)) := by
  rw [atI_map, atI_of (by omega) (by omega)]
  simp [List.getD_eq_getElem?_getD, List.getElem?_eq_getElem h]
theorem ixNk {n k : Nat} (h : k < n) : ixN n (k : Int) = some k := by
  unfold ixN
  rw [if_pos (by omega), if_pos (by omega), Int.toNat_natCast]
theorem getD_set_self {α : Type} {R : List α} {k : Nat} {v d : α} (h : k < R.length) : (R.set k v).getD k d = v := by
  simp [List.getD_eq_getElem?_getD, List.getElem?_set_self h]
theorem getD_set_ne {α : Type} {R : List α} {k j : Nat} {v d : α} (h : k ≠ j) : (R.set k v).getD j d = R.getD j d := by
  simp [List.getD_eq_getElem?_getD, List.getElem?_set_ne h]
/-- a made dict tells its keys -/
theorem in_dmo {κ : Type} [DecidableEq κ] {kf : κ → PyData} {κd : κ → DK} (K : KeyF kf κd) (xs : List κ) (a : κ) :
    cmpD .In (kf a) (.dict (dm kf PyData.bool (xs.foldl (fun ms a => pt ms a true) []))) = some (.old (.bool (decide (a ∈ xs)))) ∧ cmpD .NotIn (kf a) (.dict (dm kf PyData.bool (xs.foldl (fun ms a => pt ms a true) []))) = some (.old (.bool (!decide (a ∈ xs)))) := by
  have h := getP_dm (g := PyData.bool) K (xs.foldl (fun ms a => pt ms a true) []) a
  have hs : ((lk (xs.foldl (fun ms a => pt ms a true) []) a).map PyData.bool).isSome = decide (a ∈ xs) := by
    rw [Option.isSome_map]
    have h1 := fold_keys (fun a : κ => a) (fun _ => true) xs [] a
    by_cases hm : a ∈ xs
    · rw [decide_eq_true hm]
      exact lk_isSome.mpr (h1.mpr (.inr ⟨a, hm, rfl⟩))
    · rw [decide_eq_false hm]
      have : lk (xs.foldl (fun ms a => pt ms a true) []) a = none := lk_none.mpr fun hk => by
        rcases h1.mp hk with h | ⟨b, hb, rfl⟩
        · cases h
        · exact hm hb
      rw [this]; rfl
  rw [in_dict, nin_dict, h, inP_s, inP_s, hs]
  constructor <;> cases decide (a ∈ xs) <;> rfl
/-- sorted of pairs that differ -/
theorem sorted_nd {xs : List (Nat × Nat)} (hn : xs.Nodup) (hb : ∀ p ∈ xs, p.1 < 64 ∧ p.2 < 64) : Blt.sorted.run [.list (xs.map ppD)] = some (.newL ((ssP xs).map ppD)) := by
  have he : sortK (xs.map ppD) = (ssP xs).map ppD := by
    refine sortK_uniq (cs := [0, 0]) ((sortK_perm _).trans (((List.perm_ext_iff_of_nodup hn (ssP_nodup xs)).mpr fun p => (mem_ssP hb p).symm).map ppD)) (sortK_sorted _) ?_ fun d hd => ?_
    · rw [List.pairwise_map]
      refine (ssP_lt xs).imp_of_mem fun {p q} hp hq h => ?_
      have b1 := hb p ((mem_ssP hb p).mp hp)
      have b2 := hb q ((mem_ssP hb q).mp hq)
      show HT.lexLt [(q.1 : Int), (q.2 : Int)] [(p.1 : Int), (p.2 : Int)] = false
      rw [HT.lexLt_cons, HT.lexLt_cons, HT.lexLt_nil_nil]
      by_cases e1 : (q.1 : Int) = p.1
      · rw [if_pos e1]
        by_cases e2 : (q.2 : Int) = p.2
        · rw [if_pos e2]
        · rw [if_neg e2]
          exact decide_eq_false (by omega)
      · rw [if_neg e1]
        exact decide_eq_false (by omega)
    · obtain ⟨p, _, rfl⟩ := List.mem_map.mp ((sortK_perm _).mem_iff.mp hd)
      exact ⟨_, rfl⟩
  rw [← he]
  cases xs with
  | nil => rfl
  | cons r rs =>
    have hk : keysOk ((r :: rs).map ppD) = true := by
      show shapeAll (ppD r :: rs.map ppD) (keyD (ppD r)) = true
      show ((ppD r :: rs.map ppD).all fun e => decide ((keyD e).map (·.1) = some (0 :: [0]))) = true
      rw [List.all_eq_true]
      intro d hd
      obtain ⟨q, _, rfl⟩ := List.mem_map.mp (show d ∈ (r :: rs).map ppD from hd)
      rfl
    show (match intsOf ((r :: rs).map ppD) with | some ns => some (Or.newL ((sortI ns).map .int)) | none => if keysOk ((r :: rs).map ppD) = true then some (Or.newL (sortK ((r :: rs).map ppD))) else sortAD ((r :: rs).map ppD)) = _
    rw [hk]
    rfl
end PyI

/-! ## the IR of the text (printed by gen.py) -/
namespace LawT
open PySem PySem.Spec L2 PyI
def f_speaking : Fn := ⟨["old", "new", "having", "olds", "pair", "news", "found", "a", "b", "first", "second"], 3,
  (.cons (.set 3 (.dcomp [("pair", 4)] (.name 4) (.seq (.var 0)) (.var 4) (.cst (.bool true))))
  (.cons (.set 5 (.dcomp [("pair", 4)] (.name 4) (.seq (.var 1)) (.var 4) (.cst (.bool true))))
  (.cons (.set 6 (.lst .nil))
  (.cons (.for (.tup 2 (.cons (.name 7) (.cons (.name 8) .nil))) (.seq (.sset (.bin .Add (.var 0) (.var 1)))) (.cons (.set 9 (.ife (.cmp .In (.var 7) (.var 2)) (.var 5) (.var 3)))
  (.cons (.set 10 (.ife (.cmp .In (.var 8) (.var 2)) (.var 5) (.var 3)))
  (.cons (.ite (.and (.cons (.cmp .In (.tup (.cons (.var 7) (.cons (.var 8) .nil))) (.var 9)) (.cons (.cmp .In (.tup (.cons (.var 7) (.cons (.var 8) .nil))) (.var 10)) .nil))) (.cons (.expr (.app 6 (.tup (.cons (.var 7) (.cons (.var 8) .nil)))))
  .nil) .nil)
  .nil))))
  (.cons (.ret (.blt .tuple (.cons (.var 6) .nil)))
  .nil)))))⟩
def f_members_of : Fn := ⟨["mask", "sites", "site"], 2,
  (.cons (.ret (.blt .tuple (.cons (.comp [("site", 2)] (.name 2) (.rng1 (.var 1)) (.cons (.bin .BitAnd (.bin .RShift (.var 0) (.var 2)) (.cst (.int 1))) .nil) (.var 2)) .nil)))
  .nil)⟩
def f_all_joined : Fn := ⟨["sites", "pairs", "wanted", "reach", "a", "b", "middle", "site"], 3,
  (.cons (.set 3 (.bin .Mult (.lst (.cons (.cst (.int 0)) .nil)) (.var 0)))
  (.cons (.for (.tup 2 (.cons (.name 4) (.cons (.name 5) .nil))) (.seq (.var 1)) (.cons (.saug 3 .BitOr (.var 4) (.bin .LShift (.cst (.int 1)) (.var 5)))
  .nil))
  (.cons (.for (.name 6) (.rng1 (.var 0)) (.cons (.for (.name 7) (.rng1 (.var 0)) (.cons (.ite (.bin .BitAnd (.bin .RShift (.ix (.var 3) (.var 7)) (.var 6)) (.cst (.int 1))) (.cons (.saug 3 .BitOr (.var 7) (.ix (.var 3) (.var 6)))
  .nil) .nil)
  .nil))
  .nil))
  (.cons (.ret (.blt .all (.cons (.comp [("a", 4), ("b", 5)] (.tup 2 (.cons (.name 4) (.cons (.name 5) .nil))) (.seq (.var 2)) .nil (.cmp .Eq (.bin .BitAnd (.bin .RShift (.ix (.var 3) (.var 4)) (.var 5)) (.cst (.int 1))) (.cst (.int 1)))) .nil)))
  .nil))))⟩
def f_good_moments : Fn := ⟨["sites", "old", "new", "wanted", "moments", "mask", "pairs"], 4,
  (.cons (.set 4 (.lst .nil))
  (.cons (.for (.name 5) (.rng1 (.bin .LShift (.cst (.int 1)) (.var 0))) (.cons (.set 6 (.call "speaking" (.cons (.var 1) (.cons (.var 2) (.cons (.call "members_of" (.cons (.var 5) (.cons (.var 0) .nil))) .nil)))))
  (.cons (.expr (.app 4 (.call "all_joined" (.cons (.var 0) (.cons (.var 6) (.cons (.var 3) .nil))))))
  .nil)))
  (.cons (.ret (.var 4))
  .nil)))⟩
def f_moments_to_end : Fn := ⟨["sites", "good", "ending", "full", "mask", "steps", "site"], 2,
  (.cons (.set 2 (.blt .list (.cons (.var 1) .nil)))
  (.cons (.set 3 (.bin .Sub (.bin .LShift (.cst (.int 1)) (.var 0)) (.cst (.int 1))))
  (.cons (.for (.name 4) (.revr (.var 3)) (.cons (.set 5 (.comp [("site", 6)] (.name 6) (.rng1 (.var 0)) (.cons (.and (.cons (.not (.bin .BitAnd (.bin .RShift (.var 4) (.var 6)) (.cst (.int 1)))) (.cons (.ix (.var 2) (.bin .Add (.var 4) (.bin .LShift (.cst (.int 1)) (.var 6)))) .nil))) .nil) (.var 6)))
  (.cons (.sub 2 (.var 4) (.and (.cons (.ix (.var 1) (.var 4)) (.cons (.cmp .Gt (.blt .len (.cons (.var 5) .nil)) (.cst (.int 0))) .nil))))
  .nil)))
  (.cons (.ret (.var 2))
  .nil))))⟩
def f_safe_order : Fn := ⟨["sites", "old", "new", "wanted", "ending", "order", "mask", "site", "one"], 4,
  (.cons (.set 4 (.call "moments_to_end" (.cons (.var 0) (.cons (.call "good_moments" (.cons (.var 0) (.cons (.var 1) (.cons (.var 2) (.cons (.var 3) .nil))))) .nil))))
  (.cons (.ite (.not (.ix (.var 4) (.cst (.int 0)))) (.cons (.ret (.cst .none))
  .nil) .nil)
  (.cons (.set 5 (.lst .nil))
  (.cons (.set 6 (.cst (.int 0)))
  (.cons (.while (.cmp .Lt (.blt .len (.cons (.var 5) .nil)) (.var 0)) (.cons (.set 7 (.blt .min (.cons (.comp [("one", 8)] (.name 8) (.rng1 (.var 0)) (.cons (.and (.cons (.not (.bin .BitAnd (.bin .RShift (.var 6) (.var 8)) (.cst (.int 1)))) (.cons (.ix (.var 4) (.bin .Add (.var 6) (.bin .LShift (.cst (.int 1)) (.var 8)))) .nil))) .nil) (.var 8)) .nil)))
  (.cons (.expr (.app 5 (.var 7)))
  (.cons (.aug 6 .Add (.bin .LShift (.cst (.int 1)) (.var 7)))
  .nil))))
  (.cons (.ret (.blt .tuple (.cons (.var 5) .nil)))
  .nil))))))⟩
def f_blocked_paper : Fn := ⟨["sites", "old", "new", "wanted", "good", "reached", "mask", "before", "site"], 4,
  (.cons (.set 4 (.call "good_moments" (.cons (.var 0) (.cons (.var 1) (.cons (.var 2) (.cons (.var 3) .nil))))))
  (.cons (.ite (.ix (.call "moments_to_end" (.cons (.var 0) (.cons (.var 4) .nil))) (.cst (.int 0))) (.cons (.ret (.cst .none))
  .nil) .nil)
  (.cons (.set 5 (.lst (.cons (.ix (.var 4) (.cst (.int 0))) .nil)))
  (.cons (.for (.name 6) (.rng2 (.cst (.int 1)) (.bin .LShift (.cst (.int 1)) (.var 0))) (.cons (.set 7 (.comp [("site", 8)] (.name 8) (.seq (.call "members_of" (.cons (.var 6) (.cons (.var 0) .nil)))) (.cons (.ix (.var 5) (.bin .Sub (.var 6) (.bin .LShift (.cst (.int 1)) (.var 8)))) .nil) (.var 8)))
  (.cons (.expr (.app 5 (.and (.cons (.ix (.var 4) (.var 6)) (.cons (.cmp .Gt (.blt .len (.cons (.var 7) .nil)) (.cst (.int 0))) .nil)))))
  .nil)))
  (.cons (.ret (.blt .tuple (.cons (.sortE (.comp [("mask", 6)] (.name 6) (.rng1 (.bin .LShift (.cst (.int 1)) (.var 0))) (.cons (.ix (.var 5) (.var 6)) .nil) (.call "members_of" (.cons (.var 6) (.cons (.var 0) .nil))))) .nil)))
  .nil)))))⟩
def f_l_speaking : Fn := ⟨["old", "new", "having", "pairs", "pair", "found", "first", "second"], 3,
  (.cons (.set 3 (.blt .sorted (.cons (.bin .Add (.blt .list (.cons (.var 0) .nil)) (.comp [("pair", 4)] (.name 4) (.seq (.var 1)) (.cons (.cmp .NotIn (.var 4) (.var 0)) .nil) (.var 4))) .nil)))
  (.cons (.set 5 (.lst .nil))
  (.cons (.for (.name 4) (.seq (.var 3)) (.cons (.set 6 (.ix (.lst (.cons (.cmp .In (.var 4) (.var 0)) (.cons (.cmp .In (.var 4) (.var 1)) .nil))) (.blt .int (.cons (.cmp .In (.ix (.var 4) (.cst (.int 0))) (.var 2)) .nil))))
  (.cons (.set 7 (.ix (.lst (.cons (.cmp .In (.var 4) (.var 0)) (.cons (.cmp .In (.var 4) (.var 1)) .nil))) (.blt .int (.cons (.cmp .In (.ix (.var 4) (.cst (.int 1))) (.var 2)) .nil))))
  (.cons (.ite (.and (.cons (.var 6) (.cons (.var 7) .nil))) (.cons (.expr (.app 5 (.var 4)))
  .nil) .nil)
  .nil))))
  (.cons (.ret (.blt .tuple (.cons (.var 5) .nil)))
  .nil))))⟩
def f_l_order : Fn := ⟨["row", "at", "sites", "free", "order", "k", "place"], 3,
  (.cons (.set 3 (.rg1 false (.var 2)))
  (.cons (.set 4 (.lst .nil))
  (.cons (.for (.name 5) (.rng1 (.var 2)) (.cons (.set 6 (.bin .Mod (.blt .int (.cons (.ix (.var 0) (.bin .Add (.var 1) (.var 5))) .nil)) (.blt .len (.cons (.var 3) .nil))))
  (.cons (.expr (.app 4 (.ix (.var 3) (.var 6))))
  (.cons (.set 3 (.bin .Add (.sl (.var 3) .no (.so (.var 6))) (.sl (.var 3) (.so (.bin .Add (.var 6) (.cst (.int 1)))) .no)))
  .nil))))
  (.cons (.ret (.var 4))
  .nil))))⟩
def f_l_once : Fn := ⟨["pairs", "k"], 1,
  (.cons (.ret (.blt .tuple (.cons (.blt .sorted (.cons (.comp [("k", 1)] (.name 1) (.rng1 (.blt .len (.cons (.var 0) .nil))) (.cons (.cmp .NotIn (.ix (.var 0) (.var 1)) (.sl (.var 0) .no (.so (.var 1)))) .nil) (.ix (.var 0) (.var 1))) .nil)) .nil)))
  .nil)⟩
def f_l_editions : Fn := ⟨["row", "at", "sites", "order", "old", "new", "wanted", "k", "cell", "first", "pair", "kind", "style", "a", "b", "x", "y", "gone", "z"], 3,
  (.cons (.set 3 (.call "_law_order" (.cons (.var 0) (.cons (.var 1) (.cons (.var 2) .nil)))))
  (.cons (.set 4 (.lst .nil))
  (.cons (.set 5 (.lst .nil))
  (.cons (.set 6 (.lst .nil))
  (.cons (.for (.name 7) (.rng1 (.bin .Mod (.blt .int (.cons (.ix (.var 0) (.bin .Add (.var 1) (.cst (.int 8)))) .nil)) (.cst (.int 11)))) (.cons (.set 8 (.blt .int (.cons (.ix (.var 0) (.bin .Add (.bin .Add (.var 1) (.cst (.int 10))) (.var 7))) .nil)))
  (.cons (.set 9 (.bin .Mod (.var 8) (.var 2)))
  (.cons (.set 10 (.tup (.cons (.var 9) (.cons (.bin .Mod (.blt .int (.cons (.bin .Add (.bin .Add (.var 9) (.cst (.int 1))) (.bin .Mod (.bin .FloorDiv (.var 8) (.var 2)) (.bin .Sub (.var 2) (.cst (.int 1))))) .nil)) (.var 2)) .nil))))
  (.cons (.set 11 (.bin .Mod (.bin .FloorDiv (.bin .FloorDiv (.var 8) (.var 2)) (.bin .Sub (.var 2) (.cst (.int 1)))) (.cst (.int 4))))
  (.cons (.ite (.cmp .NotEq (.var 11) (.cst (.int 1))) (.cons (.expr (.app 4 (.var 10)))
  .nil) .nil)
  (.cons (.ite (.cmp .NotEq (.var 11) (.cst (.int 0))) (.cons (.expr (.app 5 (.var 10)))
  .nil) .nil)
  (.cons (.ite (.and (.cons (.cmp .Lt (.var 7) (.cst (.int 2))) (.cons (.cmp .Gt (.bin .Mod (.bin .FloorDiv (.bin .FloorDiv (.bin .FloorDiv (.var 8) (.var 2)) (.bin .Sub (.var 2) (.cst (.int 1)))) (.cst (.int 4))) (.cst (.int 3))) (.cst (.int 0))) .nil))) (.cons (.expr (.app 6 (.var 10)))
  .nil) .nil)
  .nil))))))))
  (.cons (.set 12 (.bin .Mod (.blt .int (.cons (.ix (.var 0) (.bin .Add (.var 1) (.cst (.int 9)))) .nil)) (.cst (.int 8))))
  (.cons (.ite (.and (.cons (.cmp .Gt (.var 2) (.cst (.int 3))) (.cons (.cmp .Gt (.var 12) (.cst (.int 0))) .nil))) (.cons (.tgt (.tup 4 (.cons (.name 13) (.cons (.name 14) (.cons (.name 15) (.cons (.name 16) .nil))))) (.tup (.cons (.ix (.var 3) (.cst (.int 0))) (.cons (.ix (.var 3) (.cst (.int 1))) (.cons (.ix (.var 3) (.cst (.int 2))) (.cons (.ix (.var 3) (.cst (.int 3))) .nil))))))
  (.cons (.set 17 (.lst (.cons (.tup (.cons (.var 13) (.cons (.var 14) .nil))) (.cons (.tup (.cons (.var 13) (.cons (.var 15) .nil))) (.cons (.tup (.cons (.var 13) (.cons (.var 16) .nil))) (.cons (.tup (.cons (.var 15) (.cons (.var 14) .nil))) (.cons (.tup (.cons (.var 16) (.cons (.var 14) .nil))) .nil)))))))
  (.cons (.set 4 (.bin .Add (.comp [("pair", 10)] (.name 10) (.seq (.var 4)) (.cons (.cmp .NotIn (.var 10) (.var 17)) .nil) (.var 10)) (.lst (.cons (.tup (.cons (.var 13) (.cons (.var 15) .nil))) (.cons (.tup (.cons (.var 15) (.cons (.var 14) .nil))) .nil)))))
  (.cons (.set 5 (.bin .Add (.comp [("pair", 10)] (.name 10) (.seq (.var 5)) (.cons (.cmp .NotIn (.var 10) (.var 17)) .nil) (.var 10)) (.lst (.cons (.tup (.cons (.var 13) (.cons (.var 16) .nil))) (.cons (.tup (.cons (.var 16) (.cons (.var 14) .nil))) .nil)))))
  (.cons (.ite (.and (.cons (.cmp .NotEq (.bin .Mod (.var 12) (.cst (.int 4))) (.cst (.int 1))) (.cons (.cmp .NotEq (.bin .Mod (.var 12) (.cst (.int 4))) (.cst (.int 2))) .nil))) (.cons (.expr (.app 5 (.tup (.cons (.var 15) (.cons (.var 14) .nil)))))
  .nil) .nil)
  (.cons (.ite (.and (.cons (.cmp .NotEq (.bin .Mod (.var 12) (.cst (.int 4))) (.cst (.int 1))) (.cons (.cmp .NotEq (.bin .Mod (.var 12) (.cst (.int 4))) (.cst (.int 3))) .nil))) (.cons (.expr (.app 4 (.tup (.cons (.var 16) (.cons (.var 14) .nil)))))
  .nil) .nil)
  (.cons (.ite (.and (.cons (.cmp .Gt (.var 2) (.cst (.int 4))) (.cons (.cmp .Eq (.var 12) (.cst (.int 1))) .nil))) (.cons (.set 18 (.ix (.var 3) (.cst (.int 4))))
  (.cons (.set 4 (.bin .Add (.comp [("pair", 10)] (.name 10) (.seq (.var 4)) (.cons (.cmp .NotIn (.var 10) (.lst (.cons (.tup (.cons (.var 13) (.cons (.var 18) .nil))) (.cons (.tup (.cons (.var 18) (.cons (.var 14) .nil))) .nil)))) .nil) (.var 10)) (.lst (.cons (.tup (.cons (.var 13) (.cons (.var 18) .nil))) (.cons (.tup (.cons (.var 18) (.cons (.var 14) .nil))) .nil)))))
  (.cons (.set 5 (.bin .Add (.comp [("pair", 10)] (.name 10) (.seq (.var 5)) (.cons (.cmp .NotIn (.var 10) (.lst (.cons (.tup (.cons (.var 13) (.cons (.var 18) .nil))) (.cons (.tup (.cons (.var 18) (.cons (.var 14) .nil))) .nil)))) .nil) (.var 10)) (.lst (.cons (.tup (.cons (.var 13) (.cons (.var 18) .nil))) .nil))))
  .nil))) .nil)
  (.cons (.set 6 (.bin .Add (.comp [("pair", 10)] (.name 10) (.seq (.var 6)) (.cons (.cmp .Gt (.var 12) (.cst (.int 4))) .nil) (.var 10)) (.lst (.cons (.tup (.cons (.var 13) (.cons (.var 14) .nil))) .nil))))
  .nil)))))))) .nil)
  (.cons (.ret (.tup (.cons (.call "_law_once" (.cons (.var 4) .nil)) (.cons (.call "_law_once" (.cons (.var 5) .nil)) (.cons (.call "_law_once" (.cons (.var 6) .nil)) .nil)))))
  .nil))))))))⟩
def f_l_all_joined : Fn := ⟨["sites", "pairs", "wanted", "reach", "a", "b", "middle", "site", "pair"], 3,
  (.cons (.set 3 (.bin .Mult (.lst (.cons (.cst (.int 0)) .nil)) (.var 0)))
  (.cons (.for (.tup 2 (.cons (.name 4) (.cons (.name 5) .nil))) (.seq (.var 1)) (.cons (.sub 3 (.var 4) (.bin .BitOr (.ix (.var 3) (.var 4)) (.bin .LShift (.cst (.int 1)) (.var 5))))
  .nil))
  (.cons (.for (.name 6) (.rng1 (.var 0)) (.cons (.for (.name 7) (.rng1 (.var 0)) (.cons (.ite (.cmp .Eq (.bin .Mod (.bin .RShift (.ix (.var 3) (.var 7)) (.var 6)) (.cst (.int 2))) (.cst (.int 1))) (.cons (.sub 3 (.var 7) (.bin .BitOr (.ix (.var 3) (.var 7)) (.ix (.var 3) (.var 6))))
  .nil) .nil)
  .nil))
  .nil))
  (.cons (.ret (.blt .all (.cons (.comp [("pair", 8)] (.name 8) (.seq (.var 2)) .nil (.cmp .Eq (.bin .Mod (.bin .RShift (.ix (.var 3) (.ix (.var 8) (.cst (.int 0)))) (.ix (.var 8) (.cst (.int 1)))) (.cst (.int 2))) (.cst (.int 1)))) .nil)))
  .nil))))⟩
def f_l_members : Fn := ⟨["mask", "sites", "site"], 2,
  (.cons (.ret (.blt .tuple (.cons (.comp [("site", 2)] (.name 2) (.rng1 (.var 1)) (.cons (.cmp .Eq (.bin .Mod (.bin .RShift (.var 0) (.var 2)) (.cst (.int 2))) (.cst (.int 1))) .nil) (.var 2)) .nil)))
  .nil)⟩
def f_l_due : Fn := ⟨["sites", "good", "full", "ending", "step", "mask", "after", "site", "order", "k", "one", "reached"], 2,
  (.cons (.set 2 (.bin .Sub (.bin .LShift (.cst (.int 1)) (.var 0)) (.cst (.int 1))))
  (.cons (.set 3 (.blt .list (.cons (.var 1) .nil)))
  (.cons (.for (.name 4) (.rng2 (.cst (.int 1)) (.bin .Add (.var 2) (.cst (.int 1)))) (.cons (.set 5 (.bin .Sub (.var 2) (.var 4)))
  (.cons (.set 6 (.comp [("site", 7)] (.name 7) (.rng1 (.var 0)) (.cons (.cmp .Eq (.bin .Mod (.bin .RShift (.var 5) (.var 7)) (.cst (.int 2))) (.cst (.int 0))) .nil) (.ix (.var 3) (.bin .BitOr (.var 5) (.bin .LShift (.cst (.int 1)) (.var 7))))))
  (.cons (.sub 3 (.var 5) (.and (.cons (.ix (.var 1) (.var 5)) (.cons (.blt .any (.cons (.var 6) .nil)) .nil))))
  .nil))))
  (.cons (.ite (.ix (.var 3) (.cst (.int 0))) (.cons (.set 8 (.lst .nil))
  (.cons (.set 5 (.cst (.int 0)))
  (.cons (.for (.name 9) (.rng1 (.var 0)) (.cons (.set 7 (.blt .min (.cons (.comp [("one", 10)] (.name 10) (.rng1 (.var 0)) (.cons (.and (.cons (.cmp .Eq (.bin .Mod (.bin .RShift (.var 5) (.var 10)) (.cst (.int 2))) (.cst (.int 0))) (.cons (.ix (.var 3) (.bin .BitOr (.var 5) (.bin .LShift (.cst (.int 1)) (.var 10)))) .nil))) .nil) (.var 10)) .nil)))
  (.cons (.expr (.app 8 (.var 7)))
  (.cons (.set 5 (.bin .BitOr (.var 5) (.bin .LShift (.cst (.int 1)) (.var 7))))
  .nil))))
  (.cons (.ret (.tup (.cons (.blt .tuple (.cons (.var 8) .nil)) (.cons (.cst .none) .nil))))
  .nil)))) .nil)
  (.cons (.set 11 (.lst (.cons (.ix (.var 1) (.cst (.int 0))) .nil)))
  (.cons (.for (.name 5) (.rng2 (.cst (.int 1)) (.bin .Add (.var 2) (.cst (.int 1)))) (.cons (.expr (.app 11 (.and (.cons (.ix (.var 1) (.var 5)) (.cons (.blt .any (.cons (.comp [("site", 7)] (.name 7) (.seq (.call "_law_members" (.cons (.var 5) (.cons (.var 0) .nil)))) .nil (.ix (.var 11) (.bin .Sub (.var 5) (.bin .LShift (.cst (.int 1)) (.var 7))))) .nil)) .nil)))))
  .nil))
  (.cons (.ret (.tup (.cons (.cst .none) (.cons (.blt .tuple (.cons (.sortE (.comp [("mask", 5)] (.name 5) (.rng1 (.bin .Add (.var 2) (.cst (.int 1)))) (.cons (.ix (.var 11) (.var 5)) .nil) (.call "_law_members" (.cons (.var 5) (.cons (.var 0) .nil))))) .nil)) .nil))))
  .nil)))))))⟩
def f_l_right : Fn := ⟨["sites", "old", "new", "wanted", "good", "mask", "pairs", "order", "paper"], 4,
  (.cons (.set 4 (.lst .nil))
  (.cons (.for (.name 5) (.rng1 (.bin .LShift (.cst (.int 1)) (.var 0))) (.cons (.set 6 (.call "_law_speaking" (.cons (.var 1) (.cons (.var 2) (.cons (.call "_law_members" (.cons (.var 5) (.cons (.var 0) .nil))) .nil)))))
  (.cons (.expr (.app 4 (.call "_law_all_joined" (.cons (.var 0) (.cons (.var 6) (.cons (.var 3) .nil))))))
  .nil)))
  (.cons (.tgt (.tup 2 (.cons (.name 7) (.cons (.name 8) .nil))) (.call "_law_due" (.cons (.var 0) (.cons (.var 4) .nil))))
  (.cons (.ite (.not (.call "_law_like" (.cons (.call "safe_order" (.cons (.var 0) (.cons (.var 1) (.cons (.var 2) (.cons (.var 3) .nil))))) (.cons (.var 7) .nil)))) (.cons (.ret (.cst (.bool false)))
  .nil) .nil)
  (.cons (.ret (.call "_law_like" (.cons (.call "blocked_paper" (.cons (.var 0) (.cons (.var 1) (.cons (.var 2) (.cons (.var 3) .nil))))) (.cons (.var 8) .nil))))
  .nil)))))⟩
def f_law : Fn := ⟨["script", "row", "sites", "old", "new", "wanted", "having", "both", "first", "second", "pair", "a", "b", "x", "y", "k", "lasts"], 1,
  (.cons (.set 1 (.call "_law_row" (.cons (.var 0) (.cons (.cst (.int 24)) .nil))))
  (.cons (.set 2 (.bin .Add (.cst (.int 4)) (.bin .Mod (.blt .int (.cons (.ix (.var 1) (.cst (.int 20))) .nil)) (.cst (.int 2)))))
  (.cons (.ite (.cmp .Eq (.bin .Mod (.blt .int (.cons (.ix (.var 1) (.cst (.int 21))) .nil)) (.cst (.int 4))) (.cst (.int 3))) (.cons (.set 2 (.bin .Add (.cst (.int 1)) (.bin .Mod (.bin .FloorDiv (.blt .int (.cons (.ix (.var 1) (.cst (.int 20))) .nil)) (.cst (.int 2))) (.cst (.int 3)))))
  .nil) .nil)
  (.cons (.ite (.cmp .Eq (.bin .Mod (.blt .int (.cons (.ix (.var 1) (.cst (.int 21))) .nil)) (.cst (.int 16))) (.cst (.int 5))) (.cons (.set 2 (.cst (.int 8)))
  .nil) .nil)
  (.cons (.tgt (.tup 3 (.cons (.name 3) (.cons (.name 4) (.cons (.name 5) .nil)))) (.tup (.cons (.tup .nil) (.cons (.tup .nil) (.cons (.tup .nil) .nil)))))
  (.cons (.ite (.cmp .Gt (.var 2) (.cst (.int 1))) (.cons (.tgt (.tup 3 (.cons (.name 3) (.cons (.name 4) (.cons (.name 5) .nil)))) (.call "_law_editions" (.cons (.var 1) (.cons (.cst (.int 0)) (.cons (.var 2) .nil)))))
  .nil) .nil)
  (.cons (.set 6 (.call "_law_members" (.cons (.bin .Mod (.blt .int (.cons (.ix (.var 1) (.cst (.int 22))) .nil)) (.bin .LShift (.cst (.int 1)) (.var 2))) (.cons (.var 2) .nil))))
  (.cons (.ite (.not (.call "_law_like" (.cons (.call "speaking" (.cons (.var 3) (.cons (.var 4) (.cons (.var 6) .nil)))) (.cons (.call "_law_speaking" (.cons (.var 3) (.cons (.var 4) (.cons (.var 6) .nil)))) .nil)))) (.cons (.ret (.cst (.bool false)))
  .nil) .nil)
  (.cons (.set 7 (.call "_law_once" (.cons (.bin .Add (.blt .list (.cons (.var 3) .nil)) (.blt .list (.cons (.var 4) .nil))) .nil)))
  (.cons (.set 8 (.call "speaking" (.cons (.var 3) (.cons (.var 7) (.cons (.var 6) .nil)))))
  (.cons (.set 9 (.call "speaking" (.cons (.var 7) (.cons (.var 4) (.cons (.var 6) .nil)))))
  (.cons (.ite (.or (.cons (.not (.isi .tuple (.var 8))) (.cons (.not (.blt .all (.cons (.comp [("pair", 10)] (.name 10) (.seq (.var 3)) .nil (.cmp .In (.var 10) (.var 8))) .nil))) .nil))) (.cons (.ret (.cst (.bool false)))
  .nil) .nil)
  (.cons (.ite (.or (.cons (.not (.isi .tuple (.var 9))) (.cons (.not (.blt .all (.cons (.comp [("pair", 10)] (.name 10) (.seq (.var 4)) .nil (.cmp .In (.var 10) (.var 9))) .nil))) .nil))) (.cons (.ret (.cst (.bool false)))
  .nil) .nil)
  (.cons (.ite (.not (.call "_law_like" (.cons (.var 8) (.cons (.call "_law_speaking" (.cons (.var 3) (.cons (.var 7) (.cons (.var 6) .nil)))) .nil)))) (.cons (.ret (.cst (.bool false)))
  .nil) .nil)
  (.cons (.ite (.not (.call "_law_like" (.cons (.var 9) (.cons (.call "_law_speaking" (.cons (.var 7) (.cons (.var 4) (.cons (.var 6) .nil)))) .nil)))) (.cons (.ret (.cst (.bool false)))
  .nil) .nil)
  (.cons (.ite (.not (.call "_law_right" (.cons (.var 2) (.cons (.var 3) (.cons (.var 4) (.cons (.var 5) .nil)))))) (.cons (.ret (.cst (.bool false)))
  .nil) .nil)
  (.cons (.tgt (.tup 4 (.cons (.name 11) (.cons (.name 12) (.cons (.name 13) (.cons (.name 14) .nil))))) (.call "_law_order" (.cons (.comp [("k", 15)] (.name 15) (.rng1 (.cst (.int 4))) .nil (.bin .FloorDiv (.blt .int (.cons (.ix (.var 1) (.cst (.int 23))) .nil)) (.bin .Add (.cst (.int 1)) (.bin .Mult (.cst (.int 4)) (.var 15))))) (.cons (.cst (.int 0)) (.cons (.cst (.int 4)) .nil)))))
  (.cons (.ite (.not (.call "_law_right" (.cons (.cst (.int 4)) (.cons (.call "_law_once" (.cons (.lst (.cons (.tup (.cons (.var 11) (.cons (.var 13) .nil))) (.cons (.tup (.cons (.var 13) (.cons (.var 12) .nil))) .nil))) .nil)) (.cons (.call "_law_once" (.cons (.lst (.cons (.tup (.cons (.var 11) (.cons (.var 14) .nil))) (.cons (.tup (.cons (.var 14) (.cons (.var 12) .nil))) .nil))) .nil)) (.cons (.tup (.cons (.tup (.cons (.var 11) (.cons (.var 12) .nil))) .nil)) .nil)))))) (.cons (.ret (.cst (.bool false)))
  .nil) .nil)
  (.cons (.set 16 (.lst (.cons (.tup (.cons (.var 13) (.cons (.var 12) .nil))) (.cons (.tup (.cons (.var 14) (.cons (.var 12) .nil))) .nil))))
  (.cons (.ret (.call "_law_right" (.cons (.cst (.int 4)) (.cons (.call "_law_once" (.cons (.bin .Add (.lst (.cons (.tup (.cons (.var 11) (.cons (.var 13) .nil))) .nil)) (.var 16)) .nil)) (.cons (.call "_law_once" (.cons (.bin .Add (.lst (.cons (.tup (.cons (.var 11) (.cons (.var 14) .nil))) .nil)) (.var 16)) .nil)) (.cons (.tup (.cons (.tup (.cons (.var 11) (.cons (.var 12) .nil))) .nil)) .nil))))))
  .nil))))))))))))))))))))⟩
def T : Txt := ⟨[("speaking", f_speaking), ("members_of", f_members_of), ("all_joined", f_all_joined), ("good_moments", f_good_moments), ("moments_to_end", f_moments_to_end), ("safe_order", f_safe_order), ("blocked_paper", f_blocked_paper), ("_law_mixed", f_l_mixed), ("_law_row", f_l_row), ("_law_is_int", f_l_is_int), ("_law_like", f_l_like), ("_law_speaking", f_l_speaking), ("_law_order", f_l_order), ("_law_once", f_l_once), ("_law_editions", f_l_editions), ("_law_all_joined", f_l_all_joined), ("_law_members", f_l_members), ("_law_due", f_l_due), ("_law_right", f_l_right), ("law", f_law)],
  [],
  [], [], 1000000, []⟩
abbrev level : Nat := 12
end LawT
namespace LawT
open PySem PySem.Spec L2 PyI
abbrev nI (n : Nat) : PyData := .int (n : Int)
def mem (m s : Nat) : List Nat := (List.range s).filter fun k => m.testBit k
theorem run_members_of (P : Prg) (m : Nat) {s : Nat} (hs : s ≤ 1000) : runFn P f_members_of [.int m, .int s] = some (.ret (.tuple ((mem m s).map nI))) := by
  have hz := sizeLine_val
  refine runs_eq (runs_of rfl ?_)
  simp [f_members_of, env0, exK_bnd, seqK_exK]
  refine wp_exK (fComp_p (e0 := [.val (.int m), .val (.int s), .und]) nI (fun k => m.testBit k) nI (List.range s) (by simp (disch := first | omega | simp) [rngI_n]) (by rw [List.length_range]; omega) fun k hk => ?_) ?_
  · cases t : m.testBit k <;> simp [wipeE, shr_kn, bitT, t]
  · simp [backE, keepVal]
    rfl
theorem run_l_members (P : Prg) (m : Nat) {s : Nat} (hs : s ≤ 1000) : runFn P f_l_members [.int m, .int s] = some (.ret (.tuple ((mem m s).map nI))) := by
  have hz := sizeLine_val
  refine runs_eq (runs_of rfl ?_)
  simp [f_l_members, env0, exK_bnd, seqK_exK]
  refine wp_exK (fComp_p (e0 := [.val (.int m), .val (.int s), .und]) nI (fun k => m.testBit k) nI (List.range s) (by simp (disch := first | omega | simp) [rngI_n]) (by rw [List.length_range]; omega) fun k hk => ?_) ?_
  · cases t : m.testBit k <;> simp [wipeE, shr_kn, mod_ii, bitM, t]
  · simp [backE, keepVal]
    rfl
/-! ## who speaks -/
def sq (old new : List (Nat × Nat)) (hv : List Nat) (p : Nat × Nat) : Bool := (if p.1 ∈ hv then decide (p ∈ new) else decide (p ∈ old)) && (if p.2 ∈ hv then decide (p ∈ new) else decide (p ∈ old))
def spk (old new : List (Nat × Nat)) (hv : List Nat) : List (Nat × Nat) := (ssP (old ++ new)).filter (sq old new hv)
def dmo (xs : List (Nat × Nat)) : List (PyData × PyData) := dm ppD PyData.bool (xs.foldl (fun ms a => pt ms a true) [])
theorem ssP_len (xs : List (Nat × Nat)) : (ssP xs).length ≤ 4096 := by
  unfold ssP
  rw [List.length_map]
  exact Nat.le_trans (List.length_filter_le _ _) (by simp)
theorem run_speaking (P : Prg) {old new : List (Nat × Nat)} (hv : List Nat) (hb : ∀ p ∈ old ++ new, p.1 < 64 ∧ p.2 < 64) (hl : (old ++ new).length < 64) :
    runFn P f_speaking [.tuple (old.map ppD), .tuple (new.map ppD), .tuple (hv.map nI)] = some (.ret (.tuple ((spk old new hv).map ppD))) := by
  have hz := sizeLine_val
  have hl2 : old.length + new.length < 64 := by rw [List.length_append] at hl; exact hl
  have d1 : ∀ p, cmpD .In (ppD p) (.dict (dmo old)) = some (.old (.bool (decide (p ∈ old)))) := fun p => (in_dmo keyPp old p).1.trans (by congr)
  have d2 : ∀ p, cmpD .In (ppD p) (.dict (dmo new)) = some (.old (.bool (decide (p ∈ new)))) := fun p => (in_dmo keyPp new p).1.trans (by congr)
  have hin : ∀ k : Nat, cmpD .In (.int (k : Int)) (.tuple (hv.map nI)) = some (.old (.bool (decide (k ∈ hv)))) := fun k => (in_ni hv k).2.2.1
  have hss : ssetE [.tuple (old.map ppD ++ new.map ppD)] = some (.newL ((ssP (old ++ new)).map ppD)) := by
    rw [← List.map_append]
    show (match pairsN ((old ++ new).map ppD) with | some ps => if ps.length < 64 then some (Or.newL ((ssP ps).map ppD)) else none | none => none) = _
    rw [pairsN_of hb]
    simp only
    rw [if_pos hl]
  have hcat : binD .Add (.tuple (old.map ppD)) (.tuple (new.map ppD)) = some (.newT (old.map ppD ++ new.map ppD)) := cat_tt (by simp; omega)
  refine runs_eq (runs_of rfl ?_)
  simp [f_speaking, env0, exK_bnd, seqK_exK]
  refine wp_exK (fDcomp_map (e0 := [.val (.tuple (old.map ppD)), .val (.tuple (new.map ppD)), .val (.tuple (hv.map nI)), .und, .und, .und, .und, .und, .und, .und, .und]) keyPp (g := PyData.bool) ppD id (fun _ => true) old (by simp) (by omega) fun a ha => ?_) ?_
  · exact ⟨_, _, _, rfl, by simp [wipeE]; rfl, by simp; rfl, by simp [wipeE]⟩
  simp [backE, keepVal, exK_bnd, seqK_exK]
  refine wp_exK (fDcomp_map (e0 := [.val (.tuple (old.map ppD)), .val (.tuple (new.map ppD)), .val (.tuple (hv.map nI)), .dic (dmo old), .und, .und, .und, .und, .und, .und, .und]) keyPp (g := PyData.bool) ppD id (fun _ => true) new (by simp [dmo]) (by omega) fun a ha => ?_) ?_
  · exact ⟨_, _, _, rfl, by simp [wipeE]; rfl, by simp; rfl, by simp [wipeE]⟩
  have hdn : dm ppD PyData.bool (new.foldl (fun ms a => pt ms (id a) true) []) = dmo new := rfl
  rw [hdn]
  simp [backE, keepVal, hcat, hss]
  have hq : ∀ p, sq old new hv p = ((if p.1 ∈ hv then decide (p ∈ new) else decide (p ∈ old)) && (if p.2 ∈ hv then decide (p ∈ new) else decide (p ∈ old))) := fun _ => rfl
  have hsl := ssP_len (old ++ new)
  unfold spk
  generalize ssP (old ++ new) = sp at *
  generalize dmo old = D1 at *
  generalize dmo new = D2 at *
  have hfl : ((sp.filter (sq old new hv)).map ppD).length ≤ 4096 := by
    rw [List.length_map]
    exact Nat.le_trans (List.length_filter_le _ _) hsl
  let I (pre : List (Nat × Nat)) (e : Ev) : Prop := ∃ s3 s5 s7 s8 s9 s10 : PyI.Slot, (s3 = .dic D1 ∨ s3 = .val (.dict D1)) ∧ (s5 = .dic D2 ∨ s5 = .val (.dict D2)) ∧
    e = [.val (.tuple (old.map ppD)), .val (.tuple (new.map ppD)), .val (.tuple (hv.map nI)), s3, .und, s5, .own ((pre.filter (sq old new hv)).map ppD), s7, s8, s9, s10]
  refine wp_seq (I sp) ?_ ?_
  · refine wp_forL I ⟨_, _, _, _, _, _, .inl rfl, .inl rfl, rfl⟩ ?_ fun e h => h
    rintro pre ⟨a, b⟩ post e hpr ⟨s3, s5, s7, s8, s9, s10, h3, h5, rfl⟩
    have hpl : ((pre.filter (sq old new hv)).map ppD).length < 16777216 := by
      have h1 := List.length_filter_le (sq old new hv) pre
      have h2 := congrArg List.length hpr
      rw [List.length_append, List.length_cons] at h2
      rw [List.length_map]
      omega
    have hpp : PyData.tuple [.int (a : Int), .int (b : Int)] = ppD (a, b) := rfl
    have hqa := hq (a, b)
    have fin : ∀ (s3 s5 s7 s8 s9 s10 : PyI.Slot), (s3 = .dic D1 ∨ s3 = .val (.dict D1)) → (s5 = .dic D2 ∨ s5 = .val (.dict D2)) →
      I (pre ++ [(a, b)]) [.val (.tuple (old.map ppD)), .val (.tuple (new.map ppD)), .val (.tuple (hv.map nI)), s3, .und, s5, .own (if sq old new hv (a, b) = true then ((pre.filter (sq old new hv)).map ppD ++ [ppD (a, b)]) else (pre.filter (sq old new hv)).map ppD), s7, s8, s9, s10] := fun s3 s5 s7 s8 s9 s10 h3 h5 => by
      refine ⟨s3, s5, s7, s8, s9, s10, h3, h5, ?_⟩
      rw [List.filter_append]
      by_cases h : sq old new hv (a, b) = true
      · rw [if_pos h, List.filter_cons_of_pos h, List.map_append]; rfl
      · rw [if_neg h, List.filter_cons_of_neg h]; simp
    have e1 := d1 (a, b)
    have e2 := d2 (a, b)
    generalize ((pre.filter (sq old new hv)).map ppD) = os at *
    generalize hov : (old.map ppD) = ov at *
    generalize hnv : (new.map ppD) = nv at *
    rcases h3 with rfl | rfl <;> rcases h5 with rfl | rfl <;> by_cases ca : a ∈ hv <;> by_cases cb : b ∈ hv <;> by_cases m1 : (a, b) ∈ old <;> by_cases m2 : (a, b) ∈ new
    all_goals
      simp [ca, cb, m1, m2] at hqa e1 e2
      simp [hqa] at fin
      simp [ppD, hin, ca, cb]
      simp [hpp, e1, e2, hpl, hz]
      first
      | exact fin _ _ _ _ _ _ (.inl rfl) (.inl rfl)
      | exact fin _ _ _ _ _ _ (.inl rfl) (.inr rfl)
      | exact fin _ _ _ _ _ _ (.inr rfl) (.inl rfl)
      | exact fin _ _ _ _ _ _ (.inr rfl) (.inr rfl)
  · rintro _ ⟨s3, s5, s7, s8, s9, s10, h3, h5, rfl⟩
    simp
end LawT
namespace LawT
open PySem PySem.Spec L2 PyI
theorem run_l_speaking (P : Prg) {old new : List (Nat × Nat)} (hv : List Nat) (hb : ∀ p ∈ old ++ new, p.1 < 64 ∧ p.2 < 64) (hl : (old ++ new).length < 64) (ho : old.Nodup) (hn : new.Nodup) :
    runFn P f_l_speaking [.tuple (old.map ppD), .tuple (new.map ppD), .tuple (hv.map nI)] = some (.ret (.tuple ((spk old new hv).map ppD))) := by
  have hz := sizeLine_val
  have hl2 : old.length + new.length < 64 := by rw [List.length_append] at hl; exact hl
  have i1 : ∀ p, cmpD .In (ppD p) (.tuple (old.map ppD)) = some (.old (.bool (decide (p ∈ old)))) := fun p => (in_pp old p).2.2.1.trans (by congr)
  have i2 : ∀ p, cmpD .In (ppD p) (.tuple (new.map ppD)) = some (.old (.bool (decide (p ∈ new)))) := fun p => (in_pp new p).2.2.1.trans (by congr)
  have i3 : ∀ p, cmpD .NotIn (ppD p) (.tuple (old.map ppD)) = some (.old (.bool (!decide (p ∈ old)))) := fun p => (in_pp old p).2.2.2.trans (by congr)
  have hin : ∀ k : Nat, cmpD .In (.int (k : Int)) (.tuple (hv.map nI)) = some (.old (.bool (decide (k ∈ hv)))) := fun k => (in_ni hv k).2.2.1
  let nw := new.filter fun p => !decide (p ∈ old)
  have hnl : nw.length ≤ new.length := List.length_filter_le _ _
  have hs1 : (old ++ nw).Nodup := List.nodup_append.mpr ⟨ho, hn.filter _, fun a ha b hb' e => by
    subst e
    have := (List.mem_filter.mp hb').2
    simp [ha] at this⟩
  have hmem : ∀ p, p ∈ old ++ nw ↔ p ∈ old ++ new := fun p => by
    simp only [nw, List.mem_append, List.mem_filter]
    by_cases h : p ∈ old <;> simp [h]
  have hsrt : Blt.sorted.run [.list (old.map ppD ++ nw.map ppD)] = some (.newL ((ssP (old ++ new)).map ppD)) := by
    rw [← List.map_append, sorted_nd hs1 fun p hp => hb p ((hmem p).mp hp)]
    have : ssP (old ++ nw) = ssP (old ++ new) := by
      unfold ssP
      congr 1
      refine List.filter_congr fun c _ => ?_
      simp only [decide_eq_decide]
      exact hmem _
    rw [this]
  have hcat : binD .Add (.list (old.map ppD)) (.list (nw.map ppD)) = some (.newL (old.map ppD ++ nw.map ppD)) := cat_ll (by simp; omega)
  refine runs_eq (runs_of rfl ?_)
  simp [f_l_speaking, env0, exK_bnd, seqK_exK, bnd_bnd]
  refine wp_exK (fComp_p (e0 := [.val (.tuple (old.map ppD)), .val (.tuple (new.map ppD)), .val (.tuple (hv.map nI)), .und, .und, .und, .und, .und]) ppD (fun p => !decide (p ∈ old)) ppD new (by simp) (by omega) fun a ha => ?_) ?_
  · by_cases h : a ∈ old <;> simp [wipeE, i3, h]
  have hnw : (new.filter fun p => !decide (p ∈ old)) = nw := rfl
  rw [hnw]
  simp [backE, keepVal, hcat, hsrt]
  have hq : ∀ p, sq old new hv p = ((if p.1 ∈ hv then decide (p ∈ new) else decide (p ∈ old)) && (if p.2 ∈ hv then decide (p ∈ new) else decide (p ∈ old))) := fun _ => rfl
  have hsl := ssP_len (old ++ new)
  unfold spk
  generalize ssP (old ++ new) = sp at *
  let I (pre : List (Nat × Nat)) (e : Ev) : Prop := ∃ s4 s6 s7 : PyI.Slot, e = [.val (.tuple (old.map ppD)), .val (.tuple (new.map ppD)), .val (.tuple (hv.map nI)), .val (.list (sp.map ppD)), s4, .own ((pre.filter (sq old new hv)).map ppD), s6, s7]
  refine wp_seq (I sp) ?_ ?_
  · refine wp_forL I ⟨_, _, _, rfl⟩ ?_ fun e h => h
    rintro pre ⟨a, b⟩ post e hpr ⟨s4, s6, s7, rfl⟩
    have hpl : ((pre.filter (sq old new hv)).map ppD).length < 16777216 := by
      have h1 := List.length_filter_le (sq old new hv) pre
      have h2 := congrArg List.length hpr
      rw [List.length_append, List.length_cons] at h2
      rw [List.length_map]
      omega
    have hpp : PyData.tuple [.int (a : Int), .int (b : Int)] = ppD (a, b) := rfl
    have hqa := hq (a, b)
    have fin : ∀ (s4 s6 s7 : PyI.Slot), I (pre ++ [(a, b)]) [.val (.tuple (old.map ppD)), .val (.tuple (new.map ppD)), .val (.tuple (hv.map nI)), .val (.list (sp.map ppD)), s4, .own (if sq old new hv (a, b) = true then ((pre.filter (sq old new hv)).map ppD ++ [ppD (a, b)]) else (pre.filter (sq old new hv)).map ppD), s6, s7] := fun s4 s6 s7 => by
      refine ⟨s4, s6, s7, ?_⟩
      rw [List.filter_append]
      by_cases h : sq old new hv (a, b) = true
      · rw [if_pos h, List.filter_cons_of_pos h, List.map_append]; rfl
      · rw [if_neg h, List.filter_cons_of_neg h]; simp
    have e1 := i1 (a, b)
    have e2 := i2 (a, b)
    have e3 : atI [PyData.int (a : Int), .int (b : Int)] 0 = some (.int (a : Int)) := rfl
    have e4 : atI [PyData.int (a : Int), .int (b : Int)] 1 = some (.int (b : Int)) := rfl
    rw [← hpp] at e1 e2 fin
    show tgOk (tgF (.name 4) (.tuple [.int (a : Int), .int (b : Int)]) _) _
    generalize ((pre.filter (sq old new hv)).map ppD) = os at *
    generalize hov : (old.map ppD) = ov at *
    generalize hnv : (new.map ppD) = nv at *
    by_cases ca : a ∈ hv <;> by_cases cb : b ∈ hv <;> by_cases m1 : (a, b) ∈ old <;> by_cases m2 : (a, b) ∈ new
    all_goals
      simp [ca, cb, m1, m2] at hqa e1 e2
      simp [hqa] at fin
      simp [hin, ca, cb, e1, e2, e3, e4, hz, hpl]
      exact fin _ _ _
  · rintro _ ⟨s4, s6, s7, rfl⟩
    simp
/-! ## who is joined -/
def jset (R : List Nat) (a v : Nat) : List Nat := R.set a (R.getD a 0 ||| v)
theorem jset_len (R : List Nat) (a v : Nat) : (jset R a v).length = R.length := by unfold jset; rw [List.length_set]
def j1 (s : Nat) (ps : List (Nat × Nat)) : List Nat := ps.foldl (fun R p => jset R p.1 (2 ^ p.2)) (List.replicate s 0)
def j2s (mid : Nat) (R : List Nat) (k : Nat) : List Nat := if (R.getD k 0).testBit mid = true then jset R k (R.getD mid 0) else R
theorem j2s_len (mid : Nat) (R : List Nat) (k : Nat) : (j2s mid R k).length = R.length := by unfold j2s; split <;> first | exact jset_len _ _ _ | rfl
def j2r (s : Nat) (R : List Nat) (mid : Nat) : List Nat := (List.range s).foldl (j2s mid) R
def j2 (s : Nat) (R : List Nat) : List Nat := (List.range s).foldl (j2r s) R
def aj (s : Nat) (ps ws : List (Nat × Nat)) : Bool := ws.all fun p => ((j2 s (j1 s ps)).getD p.1 0).testBit p.2
theorem fold_len {α : Type} {f : List Nat → α → List Nat} (h : ∀ R a, (f R a).length = R.length) : ∀ (xs : List α) (R : List Nat), (xs.foldl f R).length = R.length
  | [], _ => rfl
  | x :: xs, R => by rw [List.foldl_cons, fold_len h xs, h]
theorem j1_len (s : Nat) (ps : List (Nat × Nat)) : (j1 s ps).length = s := by unfold j1; rw [fold_len fun R p => jset_len R _ _, List.length_replicate]
theorem j2r_len (s : Nat) (R : List Nat) (mid : Nat) : (j2r s R mid).length = R.length := fold_len (j2s_len mid) _ _
theorem j2_len (s : Nat) (R : List Nat) : (j2 s R).length = R.length := fold_len (j2r_len s) _ _
theorem fold_snoc {α β : Type} (f : β → α → β) (xs : List α) (a : α) (b : β) : (xs ++ [a]).foldl f b = f (xs.foldl f b) a := by rw [List.foldl_append]; rfl
theorem fold_range {β : Type} (f : β → Nat → β) (k : Nat) (b : β) : (List.range (k + 1)).foldl f b = f ((List.range k).foldl f b) k := by rw [List.range_succ, fold_snoc]
theorem set_nI (R : List Nat) (k v : Nat) : (R.map fun n : Nat => PyData.int (n : Int)).set k (.int (v : Int)) = (R.set k v).map fun n : Nat => PyData.int (n : Int) := by
  rw [List.map_set]
theorem ior_ii {i j : Int} : iaugD .BitOr (.int i) (.int j) = some (.old (.int (Builtin.bitOr i j))) := rfl
theorem saugK_own {i : Nat} {op : Operator} {k : Int} {u v : PyData} {e2 : Ev} {ds : List PyData} {d : PyData} {j : Nat} (h : e2[i]? = some (.own ds)) (hd : iaugD op u v = some (.old d)) (hj : ixN ds.length k = some j) : saugK i op k u v e2 = some (.nx (e2.set i (.own (ds.set j d)))) := by
  unfold saugK
  rw [h]
  simp only [hd, hj]
theorem run_all_joined (P : Prg) {s : Nat} (hs : s ≤ 60) {ps ws : List (Nat × Nat)} (hp : ∀ p ∈ ps, p.1 < s ∧ p.2 < s) (hw : ∀ p ∈ ws, p.1 < s ∧ p.2 < s) (hwl : ws.length ≤ 5000) :
    runFn P f_all_joined [.int s, .tuple (ps.map ppD), .tuple (ws.map ppD)] = some (.ret (.bool (aj s ps ws))) := by
  have hz := sizeLine_val
  have hrep : binD .Mult (.list [.int 0]) (.int (s : Int)) = some (.newL ((List.replicate s 0).map fun n : Nat => PyData.int (n : Int))) := by
    show (if 0 ≤ (s : Int) ∧ (s : Int) ≤ 1000 ∧ [PyData.int 0].length ≤ 1000 then some (Or.newL (List.replicate (s : Int).toNat [PyData.int 0]).flatten) else none) = _
    rw [if_pos ⟨by omega, by omega, by simp⟩, Int.toNat_natCast]
    simp
  refine runs_eq (runs_of rfl ?_)
  simp [f_all_joined, env0, exK_bnd, seqK_exK, bnd_bnd, hrep, hz]
  let E (R : List Nat) (s4 s5 s6 s7 : PyI.Slot) : Ev := [.val (.int s), .val (.tuple (ps.map ppD)), .val (.tuple (ws.map ppD)), .own (R.map fun n : Nat => PyData.int (n : Int)), s4, s5, s6, s7]
  refine wp_seq (fun e => ∃ s4 s5, e = E (j1 s ps) s4 s5 .und .und) ?_ ?_
  · refine wp_forL (fun pre e => ∃ s4 s5, e = E (j1 s pre) s4 s5 .und .und) ⟨.und, .und, by simp [E, j1]⟩ ?_ fun e h => h
    rintro pre ⟨a, b⟩ post e hpr ⟨s4, s5, rfl⟩
    obtain ⟨ha, hb⟩ := hp (a, b) (by rw [hpr]; simp)
    have ha : a < s := ha
    have hb : b < s := hb
    have hl := j1_len s pre
    have h1 : j1 s (pre ++ [(a, b)]) = jset (j1 s pre) a (2 ^ b) := fold_snoc _ _ _ _
    rw [h1]
    generalize j1 s pre = R at *
    have g1 := atN (R := R) (k := a) (by omega)
    have g2 := ixNk (n := R.length) (k := a) (by omega)
    have g2' : ixN (R.map fun n : Nat => PyData.int (n : Int)).length (a : Int) = some a := by rw [List.length_map]; exact g2
    have g3 := shl_1k b (by omega)
    have g4 := bitO (R.getD a 0) (2 ^ b)
    have g5 := set_nI R a (R.getD a 0 ||| 2 ^ b)
    have g7 : jset R a (2 ^ b) = R.set a (R.getD a 0 ||| 2 ^ b) := rfl
    rw [g7]
    generalize R.getD a 0 = v at *
    generalize 2 ^ b = q at *
    simp [E, ppD, g1, g2, g3, saugK, ior_ii, g2', g4]
  rintro _ ⟨s4, s5, rfl⟩
  have hl1 := j1_len s ps
  simp (disch := first | omega | simp) [E, rngI_n]
  refine wp_seq (fun e => ∃ s6 s7, e = E (j2 s (j1 s ps)) s4 s5 s6 s7) ?_ ?_
  · refine wp_forN (fun k e => ∃ s6 s7, e = E ((List.range k).foldl (j2r s) (j1 s ps)) s4 s5 s6 s7) ⟨_, _, rfl⟩ ?_ fun e h => h
    rintro mid e hmid ⟨s6, s7, rfl⟩
    rw [fold_range]
    have hl : ((List.range mid).foldl (j2r s) (j1 s ps)).length = s := by rw [fold_len (j2r_len s), hl1]
    generalize (List.range mid).foldl (j2r s) (j1 s ps) = R at *
    simp (disch := first | omega | simp) [E, rngI_n, exK_bnd, seqK_exK]
    refine wp_seq (fun e => ∃ s7, e = E (j2r s R mid) s4 s5 (.val (.int mid)) s7) ?_ ?_
    · refine wp_forN (fun k e => ∃ s7, e = E ((List.range k).foldl (j2s mid) R) s4 s5 (.val (.int mid)) s7) ⟨_, rfl⟩ ?_ fun e h => h
      rintro k e hk ⟨s7, rfl⟩
      rw [fold_range]
      have hl2 : ((List.range k).foldl (j2s mid) R).length = s := by rw [fold_len (j2s_len mid), hl]
      generalize (List.range k).foldl (j2s mid) R = R2 at *
      have g1 := atN (R := R2) (k := k) (by omega)
      have g1' := atN (R := R2) (k := mid) (by omega)
      have g2 := ixNk (n := R2.length) (k := k) (by omega)
      have g2' : ixN (R2.map fun n : Nat => PyData.int (n : Int)).length (k : Int) = some k := by rw [List.length_map]; exact g2
      have g3 := shr_kn (R2.getD k 0) mid
      have g4 := bitO (R2.getD k 0) (R2.getD mid 0)
      have g5 := set_nI R2 k (R2.getD k 0 ||| R2.getD mid 0)
      have g7 : j2s mid R2 k = if (R2.getD k 0).testBit mid = true then R2.set k (R2.getD k 0 ||| R2.getD mid 0) else R2 := rfl
      have g6 := bitT (R2.getD k 0) mid
      rw [g7]
      generalize R2.getD k 0 = v at *
      generalize R2.getD mid 0 = v' at *
      by_cases c : v.testBit mid = true
      · rw [if_pos c]
        rw [if_pos c] at g6
        simp [E, g1, g1', g2, g3, g6, mod_ii, saugK, ior_ii, g2', g4]
      · rw [if_neg c]
        rw [if_neg c] at g6
        simp [E, g1, g1', g2, g3, g6, mod_ii]
    · rintro _ ⟨s7, rfl⟩
      simp [E]
  rintro _ ⟨s6, s7, rfl⟩
  have hl2 : (j2 s (j1 s ps)).length = s := by rw [j2_len, hl1]
  have haj : aj s ps ws = ws.all fun p => ((j2 s (j1 s ps)).getD p.1 0).testBit p.2 := rfl
  rw [haj]
  generalize j2 s (j1 s ps) = R at *
  simp [E, exK_bnd, seqK_exK, bnd_bnd]
  refine wp_exK (fComp_f (e0 := E R s4 s5 s6 s7) ppD (fun p => .bool ((R.getD p.1 0).testBit p.2)) ws (by simp [E]) (by omega) fun p hpw => ?_) ?_
  · obtain ⟨a, b⟩ := p
    obtain ⟨ha, hb⟩ := hw (a, b) hpw
    have ha : a < s := ha
    have g1 := atN (R := R) (k := a) (by omega)
    have g3 := shr_kn (R.getD a 0) b
    have g6 := bitT (R.getD a 0) b
    have g8 : (((R.getD (a, b).1 0).testBit (a, b).2)) = (R.getD a 0).testBit b := rfl
    rw [g8]
    generalize R.getD a 0 = v at *
    by_cases c : v.testBit b = true
    · rw [if_pos c] at g6
      simp [E, wipeE, ppD, g1, g3, g6, mod_ii, c]
    · rw [if_neg c] at g6
      simp [E, wipeE, ppD, g1, g3, g6, mod_ii, c]
  · have hb : (ws.map fun p => PyData.bool ((R.getD p.1 0).testBit p.2)) = (ws.map fun p => (R.getD p.1 0).testBit p.2).map PyData.bool := by rw [List.map_map]; rfl
    have ha := all_bl (ws.map fun p => (R.getD p.1 0).testBit p.2)
    rw [← hb] at ha
    generalize (ws.map fun p => PyData.bool ((R.getD p.1 0).testBit p.2)) = bs at *
    simp [ha, List.all_map]
theorem run_l_all_joined (P : Prg) {s : Nat} (hs : s ≤ 60) {ps ws : List (Nat × Nat)} (hp : ∀ p ∈ ps, p.1 < s ∧ p.2 < s) (hw : ∀ p ∈ ws, p.1 < s ∧ p.2 < s) (hwl : ws.length ≤ 5000) :
    runFn P f_l_all_joined [.int s, .tuple (ps.map ppD), .tuple (ws.map ppD)] = some (.ret (.bool (aj s ps ws))) := by
  have hz := sizeLine_val
  have hrep : binD .Mult (.list [.int 0]) (.int (s : Int)) = some (.newL ((List.replicate s 0).map fun n : Nat => PyData.int (n : Int))) := by
    show (if 0 ≤ (s : Int) ∧ (s : Int) ≤ 1000 ∧ [PyData.int 0].length ≤ 1000 then some (Or.newL (List.replicate (s : Int).toNat [PyData.int 0]).flatten) else none) = _
    rw [if_pos ⟨by omega, by omega, by simp⟩, Int.toNat_natCast]
    simp
  refine runs_eq (runs_of rfl ?_)
  simp [f_l_all_joined, env0, exK_bnd, seqK_exK, bnd_bnd, hrep, hz]
  let E (R : List Nat) (s4 s5 s6 s7 : PyI.Slot) : Ev := [.val (.int s), .val (.tuple (ps.map ppD)), .val (.tuple (ws.map ppD)), .own (R.map fun n : Nat => PyData.int (n : Int)), s4, s5, s6, s7, .und]
  refine wp_seq (fun e => ∃ s4 s5, e = E (j1 s ps) s4 s5 .und .und) ?_ ?_
  · refine wp_forL (fun pre e => ∃ s4 s5, e = E (j1 s pre) s4 s5 .und .und) ⟨.und, .und, by simp [E, j1]⟩ ?_ fun e h => h
    rintro pre ⟨a, b⟩ post e hpr ⟨s4, s5, rfl⟩
    obtain ⟨ha, hb⟩ := hp (a, b) (by rw [hpr]; simp)
    have ha : a < s := ha
    have hb : b < s := hb
    have hl := j1_len s pre
    have h1 : j1 s (pre ++ [(a, b)]) = jset (j1 s pre) a (2 ^ b) := fold_snoc _ _ _ _
    rw [h1]
    generalize j1 s pre = R at *
    have g1 := atN (R := R) (k := a) (by omega)
    have g2 := ixNk (n := R.length) (k := a) (by omega)
    have g2' : ixN (R.map fun n : Nat => PyData.int (n : Int)).length (a : Int) = some a := by rw [List.length_map]; exact g2
    have g3 := shl_1k b (by omega)
    have g4 := bitO (R.getD a 0) (2 ^ b)
    have g5 := set_nI R a (R.getD a 0 ||| 2 ^ b)
    have g7 : jset R a (2 ^ b) = R.set a (R.getD a 0 ||| 2 ^ b) := rfl
    rw [g7]
    generalize R.getD a 0 = v at *
    generalize 2 ^ b = q at *
    simp [E, ppD, g1, g2, g3, subL, g4]
  rintro _ ⟨s4, s5, rfl⟩
  have hl1 := j1_len s ps
  simp (disch := first | omega | simp) [E, rngI_n]
  refine wp_seq (fun e => ∃ s6 s7, e = E (j2 s (j1 s ps)) s4 s5 s6 s7) ?_ ?_
  · refine wp_forN (fun k e => ∃ s6 s7, e = E ((List.range k).foldl (j2r s) (j1 s ps)) s4 s5 s6 s7) ⟨_, _, rfl⟩ ?_ fun e h => h
    rintro mid e hmid ⟨s6, s7, rfl⟩
    rw [fold_range]
    have hl : ((List.range mid).foldl (j2r s) (j1 s ps)).length = s := by rw [fold_len (j2r_len s), hl1]
    generalize (List.range mid).foldl (j2r s) (j1 s ps) = R at *
    simp (disch := first | omega | simp) [E, rngI_n, exK_bnd, seqK_exK]
    refine wp_seq (fun e => ∃ s7, e = E (j2r s R mid) s4 s5 (.val (.int mid)) s7) ?_ ?_
    · refine wp_forN (fun k e => ∃ s7, e = E ((List.range k).foldl (j2s mid) R) s4 s5 (.val (.int mid)) s7) ⟨_, rfl⟩ ?_ fun e h => h
      rintro k e hk ⟨s7, rfl⟩
      rw [fold_range]
      have hl2 : ((List.range k).foldl (j2s mid) R).length = s := by rw [fold_len (j2s_len mid), hl]
      generalize (List.range k).foldl (j2s mid) R = R2 at *
      have g1 := atN (R := R2) (k := k) (by omega)
      have g1' := atN (R := R2) (k := mid) (by omega)
      have g2 := ixNk (n := R2.length) (k := k) (by omega)
      have g2' : ixN (R2.map fun n : Nat => PyData.int (n : Int)).length (k : Int) = some k := by rw [List.length_map]; exact g2
      have g3 := shr_kn (R2.getD k 0) mid
      have g4 := bitO (R2.getD k 0) (R2.getD mid 0)
      have g5 := set_nI R2 k (R2.getD k 0 ||| R2.getD mid 0)
      have g7 : j2s mid R2 k = if (R2.getD k 0).testBit mid = true then R2.set k (R2.getD k 0 ||| R2.getD mid 0) else R2 := rfl
      have g6 := bitM (R2.getD k 0) mid
      rw [g7]
      generalize R2.getD k 0 = v at *
      generalize R2.getD mid 0 = v' at *
      by_cases c : v.testBit mid = true
      · rw [if_pos c]
        rw [if_pos c] at g6
        simp [E, g1, g1', g2, g3, g6, mod_ii, subL, g4]
      · rw [if_neg c]
        rw [if_neg c] at g6
        simp [E, g1, g1', g2, g3, g6, mod_ii]
    · rintro _ ⟨s7, rfl⟩
      simp [E]
  rintro _ ⟨s6, s7, rfl⟩
  have hl2 : (j2 s (j1 s ps)).length = s := by rw [j2_len, hl1]
  have haj : aj s ps ws = ws.all fun p => ((j2 s (j1 s ps)).getD p.1 0).testBit p.2 := rfl
  rw [haj]
  generalize j2 s (j1 s ps) = R at *
  simp [E, exK_bnd, seqK_exK, bnd_bnd]
  refine wp_exK (fComp_f (e0 := E R s4 s5 s6 s7) ppD (fun p => .bool ((R.getD p.1 0).testBit p.2)) ws (by simp [E]) (by omega) fun p hpw => ?_) ?_
  · obtain ⟨a, b⟩ := p
    obtain ⟨ha, hb⟩ := hw (a, b) hpw
    have ha : a < s := ha
    have g1 := atN (R := R) (k := a) (by omega)
    have g3 := shr_kn (R.getD a 0) b
    have g6 := bitM (R.getD a 0) b
    have g8 : (((R.getD (a, b).1 0).testBit (a, b).2)) = (R.getD a 0).testBit b := rfl
    rw [g8]
    generalize R.getD a 0 = v at *
    by_cases c : v.testBit b = true
    · rw [if_pos c] at g6
      simp [E, wipeE, ppD, g1, g3, g6, mod_ii, c, at_0, at_1]
    · rw [if_neg c] at g6
      simp [E, wipeE, ppD, g1, g3, g6, mod_ii, c, at_0, at_1]
  · have hb : (ws.map fun p => PyData.bool ((R.getD p.1 0).testBit p.2)) = (ws.map fun p => (R.getD p.1 0).testBit p.2).map PyData.bool := by rw [List.map_map]; rfl
    have ha := all_bl (ws.map fun p => (R.getD p.1 0).testBit p.2)
    rw [← hb] at ha
    generalize (ws.map fun p => PyData.bool ((R.getD p.1 0).testBit p.2)) = bs at *
    simp [ha, List.all_map]
end LawT
namespace LawT
open PySem PySem.Spec L2 PyI
/-! ## good moments -/
structure InT (s : Nat) (old new ws : List (Nat × Nat)) : Prop where
  s1 : s ≤ 12
  ol : ∀ p ∈ old, p.1 < s ∧ p.2 < s
  nw : ∀ p ∈ new, p.1 < s ∧ p.2 < s
  wl : ∀ p ∈ ws, p.1 < s ∧ p.2 < s
  len : (old ++ new).length < 64
  wlen : ws.length ≤ 5000
  ond : old.Nodup
  nnd : new.Nodup
theorem InT.b {s : Nat} {old new ws : List (Nat × Nat)} (h : InT s old new ws) : ∀ p ∈ old ++ new, p.1 < 64 ∧ p.2 < 64 := fun p hp => by
  have := h.s1
  rcases List.mem_append.mp hp with hp | hp
  · have := h.ol p hp; omega
  · have := h.nw p hp; omega
theorem InT.spk {s : Nat} {old new ws : List (Nat × Nat)} (h : InT s old new ws) (hv : List Nat) : ∀ p ∈ spk old new hv, p.1 < s ∧ p.2 < s := fun p hp => by
  have h1 := (mem_ssP h.b p).mp (List.mem_filter.mp hp).1
  rcases List.mem_append.mp h1 with hp | hp
  · exact h.ol p hp
  · exact h.nw p hp
def gm (s : Nat) (old new ws : List (Nat × Nat)) (m : Nat) : Bool := aj s (spk old new (mem m s)) ws
def gms (s : Nat) (old new ws : List (Nat × Nat)) : List Bool := (List.range (2 ^ s)).map (gm s old new ws)
theorem pow_le {s : Nat} (h : s ≤ 12) : 2 ^ s ≤ 4096 := Nat.pow_le_pow_right (by decide) h
theorem run_good_moments (n : Nat) {s : Nat} {old new ws : List (Nat × Nat)} (h : InT s old new ws) :
    runFn (prgAt T (n + 2)) f_good_moments [.int s, .tuple (old.map ppD), .tuple (new.map ppD), .tuple (ws.map ppD)] = some (.ret (.list ((gms s old new ws).map .bool))) := by
  have hz := sizeLine_val
  have hs := h.s1
  have hp := pow_le hs
  have k1 : (prgAt T (n + 2)).call ("speaking" : PySem.Str) = some (3, runFn (prgAt T (n + 1)) f_speaking) := prg_call' (T := T) (n := n + 1) (k := 3) (x := "speaking") rfl rfl
  have k2 : (prgAt T (n + 2)).call ("members_of" : PySem.Str) = some (2, runFn (prgAt T (n + 1)) f_members_of) := prg_call' (T := T) (n := n + 1) (k := 2) (x := "members_of") rfl rfl
  have k3 : (prgAt T (n + 2)).call ("all_joined" : PySem.Str) = some (3, runFn (prgAt T (n + 1)) f_all_joined) := prg_call' (T := T) (n := n + 1) (k := 3) (x := "all_joined") rfl rfl
  have r2 : ∀ m : Nat, runFn (prgAt T (n + 1)) f_members_of [.int m, .int s] = _ := fun m => run_members_of _ m (by omega)
  have r1 : ∀ m : Nat, runFn (prgAt T (n + 1)) f_speaking [.tuple (old.map ppD), .tuple (new.map ppD), .tuple ((mem m s).map nI)] = _ := fun m => run_speaking _ (mem m s) h.b h.len
  have r3 : ∀ m : Nat, runFn (prgAt T (n + 1)) f_all_joined [.int s, .tuple ((spk old new (mem m s)).map ppD), .tuple (ws.map ppD)] = some (.ret (.bool (gm s old new ws m))) := fun m => run_all_joined _ (by omega) (h.spk _) h.wl h.wlen
  have g3 := shl_1k s (by omega)
  refine runs_eq (runs_of rfl ?_)
  have hg : gms s old new ws = (List.range (2 ^ s)).map (gm s old new ws) := rfl
  rw [hg]
  generalize gm s old new ws = G at *
  generalize 2 ^ s = N at *
  generalize hov : (old.map ppD) = ov at *
  generalize hnv : (new.map ppD) = nv at *
  generalize hwv : (ws.map ppD) = wv at *
  simp (disch := first | omega | simp) [f_good_moments, env0, g3, rngI_n, hz]
  refine wp_seq (fun e => ∃ s5 s6, e = [.val (.int s), .val (.tuple ov), .val (.tuple nv), .val (.tuple wv), .own (((List.range N).map G).map .bool), s5, s6]) ?_ ?_
  · refine wp_forN (fun k e => ∃ s5 s6, e = [.val (.int s), .val (.tuple ov), .val (.tuple nv), .val (.tuple wv), .own (((List.range k).map G).map .bool), s5, s6]) ⟨_, _, rfl⟩ ?_ fun e h => h
    rintro k e hk ⟨s5, s6, rfl⟩
    have hl : (((List.range k).map G).map PyData.bool).length < 16777216 := by simp; omega
    have fin : ∀ s5 s6 : PyI.Slot, ∃ s5' s6', [PyI.Slot.val (.int s), .val (.tuple ov), .val (.tuple nv), .val (.tuple wv), .own (((List.range k).map G).map .bool ++ [.bool (G k)]), s5, s6] = [PyI.Slot.val (.int s), .val (.tuple ov), .val (.tuple nv), .val (.tuple wv), .own (((List.range (k + 1)).map G).map .bool), s5', s6'] := fun s5 s6 => ⟨s5, s6, by rw [List.range_succ]; simp⟩
    generalize (((List.range k).map G).map PyData.bool) = os at *
    simp [k1, k2, k3, r1, r2, r3, hl, hz]
    simpa using fin .und .und
  · rintro _ ⟨s5, s6, rfl⟩
    simp
/-! ## from which moments one comes to the end -/
def gB (R : List Bool) (k : Nat) : Bool := R.getD k false
theorem atB' {R : List Bool} {k : Nat} (h : k < R.length) : atI (R.map PyData.bool) (k : Int) = some (.bool (gB R k)) := atB h
def e1 (s : Nat) (good E : List Bool) (m : Nat) : Bool := gB good m && (List.range s).any fun k => !m.testBit k && gB E (m + 2 ^ k)
def eStep (s : Nat) (good E : List Bool) (m : Nat) : List Bool := E.set m (e1 s good E m)
def eFold (s : Nat) (good : List Bool) (j : Nat) : List Bool := (List.range j).foldl (fun E i => eStep s good E (2 ^ s - 1 - 1 - i)) good
theorem eFold_succ (s : Nat) (good : List Bool) (j : Nat) : eFold s good (j + 1) = eStep s good (eFold s good j) (2 ^ s - 1 - 1 - j) := fold_range _ _ _
theorem eFold_len (s : Nat) (good : List Bool) : ∀ j, (eFold s good j).length = good.length
  | 0 => rfl
  | j + 1 => by
    rw [eFold_succ]
    unfold eStep
    rw [List.length_set, eFold_len s good j]
theorem up_lt {s m k : Nat} (hm : m < 2 ^ s) (hk : k < s) (hb : m.testBit k = false) : m + 2 ^ k < 2 ^ s := by
  rw [← or_low hb]
  exact Nat.or_lt_two_pow hm (Nat.pow_lt_pow_right (by decide) hk)
theorem fil_any {α : Type} (p : α → Bool) : ∀ xs : List α, decide (0 < (xs.filter p).length) = xs.any p
  | [] => rfl
  | x :: xs => by
    rw [List.any_cons, ← fil_any p xs]
    by_cases h : p x = true
    · rw [List.filter_cons_of_pos h, h]; simp
    · rw [List.filter_cons_of_neg h]; simp [h]
theorem run_moments (P : Prg) {s : Nat} (hs : s ≤ 12) {good : List Bool} (hg : good.length = 2 ^ s) :
    runFn P f_moments_to_end [.int s, .list (good.map .bool)] = some (.ret (.list ((eFold s good (2 ^ s - 1)).map .bool))) := by
  have hz := sizeLine_val
  have hp := pow_le hs
  have hp1 : 1 ≤ 2 ^ s := Nat.one_le_two_pow
  have g3 := shl_1k s (by omega)
  have hup : ∀ m k, m < 2 ^ s → k < s → m.testBit k = false → m + 2 ^ k < 2 ^ s := fun m k => up_lt
  have hel := eFold_len s good
  have hes := eFold_succ s good
  have he0 : eFold s good 0 = good := rfl
  refine runs_eq (runs_of rfl ?_)
  generalize eFold s good = F at *
  generalize hN : 2 ^ s = N at *
  have h1 : (N : Int) - 1 = ((N - 1 : Nat) : Int) := by omega
  have hrv := fun e => rvI_n (n := N - 1) (by omega) e
  simp [f_moments_to_end, env0, g3, h1, hrv]
  refine wp_seq (fun e => ∃ s4 s5, e = [.val (.int s), .val (.list (good.map .bool)), .own ((F (N - 1)).map .bool), .val (.int (N - 1 : Nat)), s4, s5, .und]) ?_ ?_
  · refine wp_forN (fun k e => ∃ s4 s5, e = [.val (.int s), .val (.list (good.map .bool)), .own ((F k).map .bool), .val (.int (N - 1 : Nat)), s4, s5, .und]) ⟨.und, .und, by rw [he0]⟩ ?_ fun e h => h
    rintro j e hj ⟨s4, s5, rfl⟩
    have e2 : ((N - 1 : Nat) : Int) - 1 - (j : Int) = ((N - 1 - 1 - j : Nat) : Int) := by omega
    have hfl := hel j
    rw [hes]
    obtain ⟨m, hm⟩ : ∃ m, N - 1 - 1 - j = m := ⟨_, rfl⟩
    rw [hm] at e2 ⊢
    have hmN : m < N := by omega
    have hst : eStep s good (F j) m = (F j).set m (gB good m && (List.range s).any fun k => !m.testBit k && gB (F j) (m + 2 ^ k)) := rfl
    rw [hst]
    generalize F j = E at *
    have a1 := atB' (R := good) (k := m) (by omega)
    have a2 := ixNk (n := E.length) (k := m) (by omega)
    rw [e2]
    simp [exK_bnd, seqK_exK, bnd_bnd]
    refine wp_exK (fComp_p (e0 := [.val (.int s), .val (.list (good.map .bool)), .own (E.map .bool), .val (.int (N - 1 : Nat)), .val (.int m), s5, .und]) nI (fun k => !m.testBit k && gB E (m + 2 ^ k)) nI (List.range s) (by simp (disch := first | omega | simp) [rngI_n]) (by rw [List.length_range]; omega) fun k hk => ?_) ?_
    · have hk' : k < s := List.mem_range.mp hk
      have b1 := shr_kn m k
      have b2 := bitT m k
      have b3 := shl_1k k (by omega)
      cases c : m.testBit k
      · have b4 := hup m k hmN hk' c
        have b5 := atB' (R := E) (k := m + 2 ^ k) (by omega)
        rw [c] at b2
        have b6 : ((m : Int) + ((2 ^ k : Nat) : Int)) = ((m + 2 ^ k : Nat) : Int) := by push_cast; rfl
        generalize gB E (m + 2 ^ k) = x at *
        generalize m + 2 ^ k = y at *
        generalize 2 ^ k = q at *
        cases x <;> simp [wipeE, b1, b2, b3, b6, b5]
      · rw [c] at b2
        simp [wipeE, b1, b2]
    · have hfa := fil_any (fun k => !m.testBit k && gB E (m + 2 ^ k)) (List.range s)
      rw [← hfa]
      generalize (List.range s).filter (fun k => !m.testBit k && gB E (m + 2 ^ k)) = st at *
      generalize gB good m = gb at *
      cases gb <;> simp [backE, keepVal, a1, subL, a2]
  · rintro _ ⟨s4, s5, rfl⟩
    simp
end LawT
namespace LawT
open PySem PySem.Spec L2 PyI
theorem wp_whileM {t : M Bool} {body : MS} {Q : So → Prop} (I : Nat → Ev → Prop)
    (hs : ∀ k e, I k e → ∃ b e1, t e = some (.ok b e1) ∧ (b = false → Q (.nx e1)) ∧ (b = true → wp (body e1) (Lp (fun e2 => ∃ k', k' < k ∧ I k' e2) Q))) :
    ∀ (n m : Nat) (e : Ev), I m e → m < n → wp (whileL t body n e) Q
  | 0, _, _, _, h => absurd h (Nat.not_lt_zero _)
  | n + 1, m, e, h0, hn => by
    obtain ⟨b, e1, h1, h2, h3⟩ := hs m e h0
    unfold whileL
    simp only [h1, exK_ok]
    cases b with
    | false => exact ⟨_, rfl, h2 rfl⟩
    | true =>
      obtain ⟨r, h4, h5⟩ := h3 rfl
      simp only [h4, if_true]
      cases r with
      | nx e2 => obtain ⟨k', hk, hI⟩ := h5; exact wp_whileM I hs n k' e2 hI (by omega)
      | cnt e2 => obtain ⟨k', hk, hI⟩ := h5; exact wp_whileM I hs n k' e2 hI (by omega)
      | brk e2 => exact ⟨_, rfl, h5⟩
      | ret d => exact ⟨_, rfl, h5⟩
      | exc c e2 => exact ⟨_, rfl, h5⟩
/-! ## what the fold leaves -/
theorem gB_set {E : List Bool} {m j : Nat} {v : Bool} (h : m < E.length) : gB (E.set m v) j = if j = m then v else gB E j := by
  unfold gB
  by_cases e : j = m
  · subst e; rw [if_pos rfl, getD_set_self h]
  · rw [if_neg e, getD_set_ne (Ne.symm e)]
theorem e_rec {s : Nat} {good : List Bool} (hg : good.length = 2 ^ s) : ∀ j, j ≤ 2 ^ s - 1 → ∀ m, 2 ^ s - 1 - j ≤ m → m < 2 ^ s - 1 → gB (eFold s good j) m = e1 s good (eFold s good j) m
  | 0, _, m, h1, h2 => by omega
  | j + 1, hj, m, h1, h2 => by
    have ih := e_rec hg j (by omega)
    have hl : (eFold s good j).length = 2 ^ s := by rw [eFold_len, hg]
    rw [eFold_succ]
    have hst : eStep s good (eFold s good j) (2 ^ s - 1 - 1 - j) = (eFold s good j).set (2 ^ s - 1 - 1 - j) (e1 s good (eFold s good j) (2 ^ s - 1 - 1 - j)) := rfl
    rw [hst]
    have same : ∀ v : Bool, e1 s good ((eFold s good j).set (2 ^ s - 1 - 1 - j) v) m = e1 s good (eFold s good j) m := fun v => by
      unfold e1
      congr 2
      funext k
      congr 1
      rw [gB_set (by omega), if_neg]
      have := Nat.two_pow_pos k
      omega
    rw [same, gB_set (by omega)]
    by_cases e : m = 2 ^ s - 1 - 1 - j
    · rw [if_pos e, e]
    · rw [if_neg e]
      exact ih m (by omega) h2
/-! ## the least order -/
def cand (s : Nat) (E : List Bool) (m : Nat) : List Nat := (List.range s).filter fun k => !m.testBit k && gB E (m + 2 ^ k)
def mn : List Nat → Nat
  | [] => 0
  | x :: xs => xs.foldl min x
theorem mn_mem : ∀ {xs : List Nat}, xs ≠ [] → mn xs ∈ xs
  | [], h => absurd rfl h
  | x :: xs, _ => by
    have go : ∀ (xs : List Nat) (x : Nat), xs.foldl min x = x ∨ xs.foldl min x ∈ xs := by
      intro xs
      induction xs with
      | nil => intro x; exact .inl rfl
      | cons y ys ih =>
        intro x
        rw [List.foldl_cons]
        rcases ih (min x y) with h | h
        · rw [h]
          by_cases c : x ≤ y
          · exact .inl (by omega)
          · right; rw [show min x y = y by omega]; simp
        · exact .inr (List.mem_cons_of_mem _ h)
    show xs.foldl min x ∈ x :: xs
    rcases go xs x with h | h
    · rw [h]; simp
    · exact List.mem_cons_of_mem _ h
theorem min_n {xs : List Nat} (h : xs ≠ []) : Blt.min.run [.list (xs.map nI)] = some (.old (.int (mn xs : Nat))) := by
  cases xs with
  | nil => exact absurd rfl h
  | cons x xs =>
    have h1 : intsOf ((x :: xs).map nI) = some ((x :: xs).map fun n : Nat => (n : Int)) := by
      rw [← intsOf_map, List.map_map]; rfl
    have go : ∀ (xs : List Nat) (x : Nat), (xs.map fun n : Nat => (n : Int)).foldl min (x : Int) = ((xs.foldl min x : Nat) : Int) := by
      intro xs
      induction xs with
      | nil => intro x; rfl
      | cons y ys ih =>
        intro x
        rw [List.map_cons, List.foldl_cons, List.foldl_cons, ← ih (min x y)]
        congr 1
        omega
    show (match intsOf ((x :: xs).map nI) with | some ns => (minOf ns).bind intO | none => none) = _
    rw [h1]
    show intO ((xs.map fun n : Nat => (n : Int)).foldl min (x : Int)) = _
    rw [go]
    rfl
def oSt (s : Nat) (E : List Bool) : Nat → List Nat × Nat
  | 0 => ([], 0)
  | k + 1 => ((oSt s E k).1 ++ [mn (cand s E (oSt s E k).2)], (oSt s E k).2 + 2 ^ mn (cand s E (oSt s E k).2))
theorem oSt_len (s : Nat) (E : List Bool) : ∀ k, (oSt s E k).1.length = k
  | 0 => rfl
  | k + 1 => by unfold oSt; rw [List.length_append, oSt_len s E k]; rfl
def cnt (s m : Nat) : Nat := ((List.range s).filter fun k => m.testBit k).length
theorem fil_add {α : Type} [DecidableEq α] (p q : α → Bool) (x : α) (hq : ∀ y, q y = (p y || decide (x = y))) (hp : p x = false) : ∀ l : List α, l.Nodup → (l.filter q).length = (l.filter p).length + (if x ∈ l then 1 else 0)
  | [], _ => by simp
  | y :: l, hn => by
    rw [List.nodup_cons] at hn
    have ih := fil_add p q x hq hp l hn.2
    by_cases e : x = y
    · subst e
      have h1 : q x = true := by rw [hq]; simp
      rw [List.filter_cons_of_pos h1, List.filter_cons_of_neg (by simp [hp]), List.length_cons, ih, if_neg hn.1]
      simp
    · have h1 : q y = p y := by rw [hq]; simp [e]
      have h2 : (x ∈ y :: l) ↔ x ∈ l := by simp [e]
      by_cases c : p y = true
      · rw [List.filter_cons_of_pos (by rw [h1]; exact c), List.filter_cons_of_pos c, List.length_cons, List.length_cons, ih]
        by_cases h3 : x ∈ l
        · rw [if_pos h3, if_pos (h2.mpr h3)]
        · rw [if_neg h3, if_neg (fun h => h3 (h2.mp h))]
      · rw [List.filter_cons_of_neg (by rw [h1]; exact c), List.filter_cons_of_neg c, ih]
        by_cases h3 : x ∈ l
        · rw [if_pos h3, if_pos (h2.mpr h3)]
        · rw [if_neg h3, if_neg (fun h => h3 (h2.mp h))]
theorem cnt_add {s m x : Nat} (hx : x < s) (hb : m.testBit x = false) : cnt s (m + 2 ^ x) = cnt s m + 1 := by
  unfold cnt
  rw [fil_add (fun k => m.testBit k) (fun k => (m + 2 ^ x).testBit k) x (fun y => by rw [← or_low hb, Nat.testBit_or, Nat.testBit_two_pow]) hb _ List.nodup_range, if_pos (List.mem_range.mpr hx)]
theorem cnt_full {s m : Nat} (h : m = 2 ^ s - 1) : cnt s m = s := by
  unfold cnt
  have : (List.range s).filter (fun k => m.testBit k) = List.range s := by
    rw [List.filter_eq_self]
    intro k hk
    rw [h, Nat.testBit_two_pow_sub_one]
    exact decide_eq_true (List.mem_range.mp hk)
  rw [this, List.length_range]
theorem cand_mem {s : Nat} {E : List Bool} {m x : Nat} : x ∈ cand s E m ↔ x < s ∧ m.testBit x = false ∧ gB E (m + 2 ^ x) = true := by
  unfold cand
  rw [List.mem_filter, List.mem_range]
  simp
theorem cand_ne {s : Nat} {good : List Bool} (hg : good.length = 2 ^ s) {m : Nat} (hm : m < 2 ^ s) (hc : cnt s m < s) (he : gB (eFold s good (2 ^ s - 1)) m = true) : cand s (eFold s good (2 ^ s - 1)) m ≠ [] := by
  have h1 : m ≠ 2 ^ s - 1 := fun e => by have := cnt_full e; omega
  rw [e_rec hg _ (Nat.le_refl _) m (by omega) (by omega)] at he
  unfold e1 at he
  rw [Bool.and_eq_true, List.any_eq_true] at he
  obtain ⟨_, k, hk, hk2⟩ := he
  intro hn
  have : k ∈ cand s (eFold s good (2 ^ s - 1)) m := by
    unfold cand
    exact List.mem_filter.mpr ⟨hk, hk2⟩
  rw [hn] at this
  cases this
structure OkS (s : Nat) (E : List Bool) (k : Nat) : Prop where
  lt : (oSt s E k).2 < 2 ^ s
  cn : cnt s (oSt s E k).2 = k
  gd : gB E (oSt s E k).2 = true
  ml : ∀ x ∈ (oSt s E k).1, x < s
theorem okS {s : Nat} {good : List Bool} (hg : good.length = 2 ^ s) (h0 : gB (eFold s good (2 ^ s - 1)) 0 = true) : ∀ k, k ≤ s → OkS s (eFold s good (2 ^ s - 1)) k
  | 0, _ => ⟨Nat.two_pow_pos s, by
      show cnt s 0 = 0
      unfold cnt
      rw [List.length_eq_zero_iff, List.filter_eq_nil_iff]
      intro k _
      simp, h0, fun x hx => by cases hx⟩
  | k + 1, hk => by
    have ih := okS hg h0 k (by omega)
    have hm := mn_mem (cand_ne hg ih.lt (by rw [ih.cn]; omega) ih.gd)
    obtain ⟨h1, h2, h3⟩ := cand_mem.mp hm
    exact ⟨up_lt ih.lt h1 h2, by
      show cnt s ((oSt s _ k).2 + 2 ^ _) = k + 1
      rw [cnt_add h1 h2, ih.cn], h3, fun x hx => by
      rcases List.mem_append.mp hx with hx | hx
      · exact ih.ml x hx
      · rw [List.mem_singleton.mp hx]; exact h1⟩
theorem run_safe_order (n : Nat) {s : Nat} {old new ws : List (Nat × Nat)} (h : InT s old new ws) :
    runFn (prgAt T (n + 3)) f_safe_order [.int s, .tuple (old.map ppD), .tuple (new.map ppD), .tuple (ws.map ppD)] = some (.ret (if gB (eFold s (gms s old new ws) (2 ^ s - 1)) 0 = true then .tuple ((oSt s (eFold s (gms s old new ws) (2 ^ s - 1)) s).1.map nI) else .none)) := by
  have hz := sizeLine_val
  have hs := h.s1
  have hp := pow_le hs
  have hp1 : 1 ≤ 2 ^ s := Nat.one_le_two_pow
  have k1 : (prgAt T (n + 3)).call ("good_moments" : PySem.Str) = some (4, runFn (prgAt T (n + 2)) f_good_moments) := prg_call' (T := T) (n := n + 2) (k := 4) (x := "good_moments") rfl rfl
  have k2 : (prgAt T (n + 3)).call ("moments_to_end" : PySem.Str) = some (2, runFn (prgAt T (n + 2)) f_moments_to_end) := prg_call' (T := T) (n := n + 2) (k := 2) (x := "moments_to_end") rfl rfl
  have r1 := run_good_moments n h
  have hgl : (gms s old new ws).length = 2 ^ s := by unfold gms; simp
  have r2 := run_moments (prgAt T (n + 2)) hs hgl
  have hok := okS (s := s) hgl
  have hne : ∀ k, k < s → OkS s (eFold s (gms s old new ws) (2 ^ s - 1)) k → cand s (eFold s (gms s old new ws) (2 ^ s - 1)) (oSt s (eFold s (gms s old new ws) (2 ^ s - 1)) k).2 ≠ [] := fun k hk o => cand_ne hgl o.lt (by rw [o.cn]; exact hk) o.gd
  have hel : (eFold s (gms s old new ws) (2 ^ s - 1)).length = 2 ^ s := by rw [eFold_len, hgl]
  generalize gms s old new ws = good at *
  generalize eFold s good (2 ^ s - 1) = E at *
  generalize hov : (old.map ppD) = ov at *
  generalize hnv : (new.map ppD) = nv at *
  generalize hwv : (ws.map ppD) = wv at *
  have a0 : atI (E.map PyData.bool) 0 = some (.bool (gB E 0)) := atB' (R := E) (k := 0) (by omega)
  refine runs_eq (runs_of rfl ?_)
  by_cases c0 : gB E 0 = true
  case neg =>
    have c0' : gB E 0 = false := by simpa using c0
    simp [f_safe_order, env0, k1, k2, r1, r2, a0, c0']
  have hok := hok c0
  simp [f_safe_order, env0, k1, k2, r1, r2, a0, c0, hz]
  have hfu : (prgAt T (n + 3)).fuel = 1000000 := rfl
  rw [hfu]
  refine wp_seq (fun e => ∃ s7, e = [.val (.int s), .val (.tuple ov), .val (.tuple nv), .val (.tuple wv), .val (.list (E.map .bool)), .own ((oSt s E s).1.map nI), .val (.int ((oSt s E s).2 : Nat)), s7, .und]) ?_ ?_
  · refine wp_whileM (fun j e => ∃ (k : Nat) (s7 : PyI.Slot), k ≤ s ∧ j = s - k ∧ e = [.val (.int s), .val (.tuple ov), .val (.tuple nv), .val (.tuple wv), .val (.list (E.map .bool)), .own ((oSt s E k).1.map nI), .val (.int ((oSt s E k).2 : Nat)), s7, .und]) ?_ 1000000 s _ ⟨0, .und, Nat.zero_le _, rfl, rfl⟩ (by omega)
    rintro j e ⟨k, s7, hk, rfl, rfl⟩
    have hl := oSt_len s E k
    have o := hok k hk
    have hsu : oSt s E (k + 1) = ((oSt s E k).1 ++ [mn (cand s E (oSt s E k).2)], (oSt s E k).2 + 2 ^ mn (cand s E (oSt s E k).2)) := rfl
    refine ⟨decide (k < s), [.val (.int s), .val (.tuple ov), .val (.tuple nv), .val (.tuple wv), .val (.list (E.map .bool)), .own ((oSt s E k).1.map nI), .val (.int ((oSt s E k).2 : Nat)), s7, .und], ?_, fun hc => ?_, fun hc => ?_⟩
    · simp [hl]
    · have : k = s := by
        have := of_decide_eq_false hc
        omega
      subst this
      exact ⟨s7, rfl⟩
    · have hks := of_decide_eq_true hc
      have hne := hne k hks o
      have hlt := o.lt
      have hmm := (cand_mem.mp (mn_mem hne)).1
      have hmin := min_n hne
      have hcd : cand s E (oSt s E k).2 = (List.range s).filter fun x => !(oSt s E k).2.testBit x && gB E ((oSt s E k).2 + 2 ^ x) := rfl
      have fin : ∀ s7 : PyI.Slot, ∃ k', k' < s - k ∧ ∃ (k2 : Nat) (s7' : PyI.Slot), k2 ≤ s ∧ k' = s - k2 ∧ [PyI.Slot.val (.int s), .val (.tuple ov), .val (.tuple nv), .val (.tuple wv), .val (.list (E.map .bool)), .own ((oSt s E k).1.map nI ++ [nI (mn (cand s E (oSt s E k).2))]), .val (.int (((oSt s E k).2 : Nat) + ((2 ^ mn (cand s E (oSt s E k).2) : Nat) : Int))), s7, .und] = [.val (.int s), .val (.tuple ov), .val (.tuple nv), .val (.tuple wv), .val (.list (E.map .bool)), .own ((oSt s E k2).1.map nI), .val (.int ((oSt s E k2).2 : Nat)), s7', .und] := fun s7 =>
        ⟨s - (k + 1), by omega, k + 1, s7, hks, rfl, by rw [hsu]; simp⟩
      have hol : ((oSt s E k).1.map nI).length < 16777216 := by rw [List.length_map, hl]; omega
      have hup : ∀ x, x < s → (oSt s E k).2.testBit x = false → (oSt s E k).2 + 2 ^ x < 2 ^ s := fun x => up_lt hlt
      generalize (oSt s E k).2 = m at *
      generalize (oSt s E k).1.map nI = os at *
      have b0 := shl_1k (mn (cand s E m)) (by omega)
      simp [exK_bnd, seqK_exK, bnd_bnd]
      refine wp_exK (fComp_p (e0 := [.val (.int s), .val (.tuple ov), .val (.tuple nv), .val (.tuple wv), .val (.list (E.map .bool)), .own os, .val (.int m), s7, .und]) nI (fun x => !m.testBit x && gB E (m + 2 ^ x)) nI (List.range s) (by simp (disch := first | omega | simp) [rngI_n]) (by rw [List.length_range]; omega) fun x hx => ?_) ?_
      · have hx' : x < s := List.mem_range.mp hx
        have b1 := shr_kn m x
        have b2 := bitT m x
        have b3 := shl_1k x (by omega)
        cases c : m.testBit x
        · have b4 := hup x hx' c
          have b5 := atB' (R := E) (k := m + 2 ^ x) (by omega)
          rw [c] at b2
          have b6 : ((m : Int) + ((2 ^ x : Nat) : Int)) = ((m + 2 ^ x : Nat) : Int) := by push_cast; rfl
          generalize gB E (m + 2 ^ x) = y at *
          generalize m + 2 ^ x = z at *
          generalize 2 ^ x = q at *
          cases y <;> simp [wipeE, b1, b2, b3, b6, b5]
        · rw [c] at b2
          simp [wipeE, b1, b2]
      · rw [← hcd]
        generalize cand s E m = cs at *
        generalize cs.map nI = cl at *
        generalize mn cs = x at *
        generalize 2 ^ x = q at *
        simp [backE, keepVal, hmin, hol, b0, hz]
        simpa using fin (.val (.int x))
  · rintro _ ⟨s7, rfl⟩
    simp
end LawT
namespace LawT
open PySem PySem.Spec L2 PyI
/-! ## what is reached -/
def rb (s : Nat) (good : List Bool) : Nat → List Bool
  | 0 => [gB good 0]
  | k + 1 => rb s good k ++ [gB good (k + 1) && (mem (k + 1) s).any fun x => gB (rb s good k) (k + 1 - 2 ^ x)]
theorem rb_len (s : Nat) (good : List Bool) : ∀ k, (rb s good k).length = k + 1
  | 0 => rfl
  | k + 1 => by unfold rb; rw [List.length_append, rb_len s good k]; rfl
theorem gB_app {R : List Bool} {v : Bool} {j : Nat} : gB (R ++ [v]) j = if j < R.length then gB R j else if j = R.length then v else false := by
  unfold gB
  by_cases h : j < R.length
  · rw [if_pos h]; simp [List.getD_eq_getElem?_getD, List.getElem?_append_left h]
  · rw [if_neg h]
    by_cases e : j = R.length
    · subst e; simp [List.getD_eq_getElem?_getD]
    · rw [if_neg e]
      simp [List.getD_eq_getElem?_getD]
      rw [List.getElem?_eq_none (by simp; omega)]
      rfl
theorem mem_mem {m s x : Nat} : x ∈ mem m s ↔ x < s ∧ m.testBit x = true := by
  unfold mem
  rw [List.mem_filter, List.mem_range]
theorem bit_le {m x : Nat} (h : m.testBit x = true) : 2 ^ x ≤ m := by
  rcases Nat.lt_or_ge m (2 ^ x) with h1 | h1
  · rw [Nat.testBit_lt_two_pow h1] at h; cases h
  · exact h1
theorem rb_false {s : Nat} {good : List Bool} (h : gB good 0 = false) : ∀ k j, gB (rb s good k) j = false
  | 0, j => by
    show gB ([] ++ [gB good 0]) j = false
    rw [gB_app, h]
    split <;> first | rfl | (split <;> rfl)
  | k + 1, j => by
    have ih := rb_false (s := s) h k
    show gB (rb s good k ++ [_]) j = false
    rw [gB_app]
    split
    · exact ih j
    · split
      · have : ((mem (k + 1) s).any fun x => gB (rb s good k) (k + 1 - 2 ^ x)) = false := by
          rw [List.any_eq_false]
          intro x _
          rw [ih]; simp
        rw [this]; simp
      · rfl
theorem rb_zero (s : Nat) (good : List Bool) : ∀ k, gB (rb s good k) 0 = gB good 0
  | 0 => by show gB ([] ++ [gB good 0]) 0 = _; rw [gB_app]; rfl
  | k + 1 => by
    show gB (rb s good k ++ [_]) 0 = _
    rw [gB_app, if_pos (by rw [rb_len]; omega), rb_zero s good k]
def pap (s : Nat) (R : List Bool) : List PyData := ((List.range (2 ^ s)).filter fun m => gB R m).map fun m => .tuple ((mem m s).map nI)
theorem canInts : ∀ xs : List Nat, plnL (xs.map nI) = true
  | [] => rfl
  | x :: xs => by simp [plnL, pln, canInts xs]
theorem depInts : ∀ xs : List Nat, PyData.depthAll (xs.map nI) ≤ 1
  | [] => Nat.zero_le _
  | x :: xs => by
    have := depInts xs
    simp [PyData.depthAll, PyData.depth]
    omega
theorem alInts (xs ys : List Nat) : PySem.W.alikeAll (xs.map nI) (ys.map nI) = true := by
  have h := PySem.W.alike_ints (xs.map fun n : Nat => (n : Int)) (ys.map fun n : Nat => (n : Int))
  rw [List.map_map, List.map_map] at h
  exact h
theorem srt_pap (s : Nat) (good : List Bool) (k : Nat) : ∃ ys, sortedE [.list (pap s (rb s good k))] = some (.newL ys) ∧ ys.length ≤ 2 ^ s ∧ ∀ d ∈ ys, ∃ m, d = .tuple ((mem m s).map nI) := by
  cases h : gB good 0
  · have e : pap s (rb s good k) = [] := by
      unfold pap
      rw [List.map_eq_nil_iff, List.filter_eq_nil_iff]
      intro m _
      rw [rb_false h]; simp
    rw [e]
    exact ⟨[], rfl, Nat.zero_le _, fun d hd => by cases hd⟩
  · have hz := rb_zero s good k
    rw [h] at hz
    obtain ⟨N, hN⟩ : ∃ N, 2 ^ s = N + 1 := ⟨2 ^ s - 1, by have := Nat.two_pow_pos s; omega⟩
    have hm0 : mem 0 s = [] := by
      unfold mem
      rw [List.filter_eq_nil_iff]
      intro k _
      simp
    have e : ∃ r, pap s (rb s good k) = .tuple [] :: r := by
      unfold pap
      rw [hN, List.range_succ_eq_map, List.filter_cons_of_pos (by exact hz), List.map_cons, hm0]
      exact ⟨_, rfl⟩
    have hall : ∀ d ∈ pap s (rb s good k), ∃ m, d = .tuple ((mem m s).map nI) := fun d hd => by
      obtain ⟨m, _, rfl⟩ := List.mem_map.mp hd
      exact ⟨m, rfl⟩
    have hl : (pap s (rb s good k)).length ≤ 2 ^ s := by
      unfold pap
      rw [List.length_map]
      exact Nat.le_trans (List.length_filter_le _ _) (by simp)
    generalize pap s (rb s good k) = ds at *
    have hk : okE ds = true := by
      unfold okE
      rw [Bool.and_eq_true]
      refine ⟨by obtain ⟨r, rfl⟩ := e; rfl, ?_⟩
      rw [List.all_eq_true]
      intro d hd
      obtain ⟨m, rfl⟩ := hall d hd
      have h1 : pln (.tuple ((mem m s).map nI)) = true := by simp [pln, canInts]
      have h2 : (PyData.tuple ((mem m s).map nI)).depth ≤ 8 := by
        have := depInts (mem m s)
        simp [PyData.depth]
        omega
      have h3 : (ds.all fun e => PySem.W.alike (.tuple ((mem m s).map nI)) e) = true := by
        rw [List.all_eq_true]
        intro d hd
        obtain ⟨m', rfl⟩ := hall d hd
        simp [PySem.W.alike, alInts]
      simp only [h1, h3, tupB, decide_eq_true h2, Bool.and_self]
    refine ⟨sortA ds, ?_, by rw [(sortA_perm ds).length_eq]; exact hl, fun d hd => hall d ((sortA_perm ds).mem_iff.mp hd)⟩
    show (if okE ds = true then some (Or.newL (sortA ds)) else sortedD [.list ds]) = _
    rw [if_pos hk]
theorem run_blocked_paper (n : Nat) {s : Nat} {old new ws : List (Nat × Nat)} (h : InT s old new ws) {ys : List PyData} (hy : sortedE [.list (pap s (rb s (gms s old new ws) (2 ^ s - 1)))] = some (.newL ys)) :
    runFn (prgAt T (n + 3)) f_blocked_paper [.int s, .tuple (old.map ppD), .tuple (new.map ppD), .tuple (ws.map ppD)] = some (.ret (if gB (eFold s (gms s old new ws) (2 ^ s - 1)) 0 = true then .none else .tuple ys)) := by
  have hz := sizeLine_val
  have hs := h.s1
  have hp := pow_le hs
  have hp1 : 1 ≤ 2 ^ s := Nat.one_le_two_pow
  have k1 : (prgAt T (n + 3)).call ("good_moments" : PySem.Str) = some (4, runFn (prgAt T (n + 2)) f_good_moments) := prg_call' (T := T) (n := n + 2) (k := 4) (x := "good_moments") rfl rfl
  have k2 : (prgAt T (n + 3)).call ("moments_to_end" : PySem.Str) = some (2, runFn (prgAt T (n + 2)) f_moments_to_end) := prg_call' (T := T) (n := n + 2) (k := 2) (x := "moments_to_end") rfl rfl
  have k3 : (prgAt T (n + 3)).call ("members_of" : PySem.Str) = some (2, runFn (prgAt T (n + 2)) f_members_of) := prg_call' (T := T) (n := n + 2) (k := 2) (x := "members_of") rfl rfl
  have r1 := run_good_moments n h
  have hgl : (gms s old new ws).length = 2 ^ s := by unfold gms; simp
  have r2 := run_moments (prgAt T (n + 2)) hs hgl
  have r3 : ∀ m : Nat, runFn (prgAt T (n + 2)) f_members_of [.int m, .int s] = _ := fun m => run_members_of _ m (by omega)
  have hel : (eFold s (gms s old new ws) (2 ^ s - 1)).length = 2 ^ s := by rw [eFold_len, hgl]
  generalize gms s old new ws = good at *
  generalize eFold s good (2 ^ s - 1) = E at *
  generalize hov : (old.map ppD) = ov at *
  generalize hnv : (new.map ppD) = nv at *
  generalize hwv : (ws.map ppD) = wv at *
  have a0 : atI (E.map PyData.bool) 0 = some (.bool (gB E 0)) := atB' (R := E) (k := 0) (by omega)
  have a1 : atI (good.map PyData.bool) 0 = some (.bool (gB good 0)) := atB' (R := good) (k := 0) (by omega)
  have g3 := shl_1k s (by omega)
  refine runs_eq (runs_of rfl ?_)
  by_cases c0 : gB E 0 = true
  · simp [f_blocked_paper, env0, k1, k2, r1, r2, a0, c0]
  have c0 : gB E 0 = false := by simpa using c0
  have hpap : pap s (rb s good (2 ^ s - 1)) = ((List.range (2 ^ s)).filter fun m => gB (rb s good (2 ^ s - 1)) m).map fun m => .tuple ((mem m s).map nI) := rfl
  rw [hpap] at hy
  generalize hN : 2 ^ s = N at *
  have h2 : rngI [.val (.int (s : Int)), .val (.tuple ov), .val (.tuple nv), .val (.tuple wv), .val (.list (good.map .bool)), .own [.bool (gB good 0)], .und, .und, .und] (some [.int 1, .int (N : Int)]) = some (.ok ((List.range (N - 1)).map fun n : Nat => .int ((n + 1 : Nat) : Int)) [.val (.int (s : Int)), .val (.tuple ov), .val (.tuple nv), .val (.tuple wv), .val (.list (good.map .bool)), .own [.bool (gB good 0)], .und, .und, .und]) := by
    rw [rngI_2 (by omega), show ((N : Int) - 1).toNat = N - 1 by omega]
    congr 2
    refine List.map_congr_left fun n _ => ?_
    congr 1
    omega
  simp [f_blocked_paper, env0, k1, k2, r1, r2, a0, c0, a1, g3, h2, hz]
  refine wp_seq (fun e => ∃ s6 s7, e = [.val (.int s), .val (.tuple ov), .val (.tuple nv), .val (.tuple wv), .val (.list (good.map .bool)), .own ((rb s good (N - 1)).map .bool), s6, s7, .und]) ?_ ?_
  · refine wp_forN (fun k e => ∃ s6 s7, e = [.val (.int s), .val (.tuple ov), .val (.tuple nv), .val (.tuple wv), .val (.list (good.map .bool)), .own ((rb s good k).map .bool), s6, s7, .und]) ⟨.und, .und, rfl⟩ ?_ fun e h => h
    rintro k e hk ⟨s6, s7, rfl⟩
    have hl := rb_len s good k
    have hsu : rb s good (k + 1) = rb s good k ++ [gB good (k + 1) && (mem (k + 1) s).any fun x => gB (rb s good k) (k + 1 - 2 ^ x)] := rfl
    rw [hsu]
    generalize rb s good k = R at *
    have a2 := atB' (R := good) (k := k + 1) (by omega)
    have r3k := r3 (k + 1)
    have hml : ∀ x ∈ mem (k + 1) s, x < s ∧ (k + 1).testBit x = true := fun x hx => mem_mem.mp hx
    have hmm : (mem (k + 1) s).length ≤ s := by
      unfold mem
      exact Nat.le_trans (List.length_filter_le _ _) (by simp)
    have hbl : ∀ x, (k + 1).testBit x = true → 2 ^ x ≤ k + 1 := fun x => bit_le
    have hbp : ∀ x, 0 < 2 ^ x := Nat.two_pow_pos
    generalize mem (k + 1) s = ms at *
    have hc : ((k : Int) + 1) = ((k + 1 : Nat) : Int) := by omega
    simp only [hc]
    generalize hm : k + 1 = m at *
    have hol : (R.map PyData.bool).length < 16777216 := by rw [List.length_map, hl]; omega
    simp [exK_bnd, seqK_exK, bnd_bnd]
    refine wp_exK (fComp_p (e0 := [.val (.int s), .val (.tuple ov), .val (.tuple nv), .val (.tuple wv), .val (.list (good.map .bool)), .own (R.map .bool), .val (.int m), s7, .und]) nI (fun x => gB R (m - 2 ^ x)) nI ms (by simp [k3, r3k]) (by omega) fun x hx => ?_) ?_
    · obtain ⟨b1, b2⟩ := hml x hx
      have b3 := shl_1k x (by omega)
      have b4 := hbl x b2
      have b7 := hbp x
      have b5 := atB' (R := R) (k := m - 2 ^ x) (by omega)
      have b6 : ((m : Int) - ((2 ^ x : Nat) : Int)) = ((m - 2 ^ x : Nat) : Int) := by omega
      generalize gB R (m - 2 ^ x) = y at *
      generalize m - 2 ^ x = z at *
      generalize 2 ^ x = q at *
      cases y <;> simp [wipeE, b3, b6, b5]
    · have hfa := fil_any (fun x => gB R (m - 2 ^ x)) ms
      rw [← hfa]
      generalize ms.filter (fun x => gB R (m - 2 ^ x)) = st at *
      generalize gB good m = gb at *
      generalize hos : R.map PyData.bool = os at *
      cases gb <;> simp [backE, keepVal, a2, hol, hos, hz]
  · rintro _ ⟨s6, s7, rfl⟩
    have hl := rb_len s good (N - 1)
    generalize rb s good (N - 1) = R at *
    have hpl : (((List.range N).filter fun m => gB R m).map fun m => PyData.tuple ((mem m s).map nI)).length ≤ 4096 := by
      rw [List.length_map]
      exact Nat.le_trans (List.length_filter_le _ _) (by simp; omega)
    simp [exK_bnd, seqK_exK, bnd_bnd, g3]
    refine wp_exK (fComp_p (e0 := [.val (.int s), .val (.tuple ov), .val (.tuple nv), .val (.tuple wv), .val (.list (good.map .bool)), .own (R.map .bool), s6, s7, .und]) nI (fun m => gB R m) (fun m => .tuple ((mem m s).map nI)) (List.range N) (by simp (disch := first | omega | simp) [rngI_n, g3]) (by rw [List.length_range]; omega) fun m hm => ?_) ?_
    · have hm' : m < N := List.mem_range.mp hm
      have b5 := atB' (R := R) (k := m) (by omega)
      have r3m := r3 m
      generalize (mem m s).map nI = ml at *
      cases c : gB R m
      · rw [c] at b5
        simp [wipeE, b5]
      · rw [c] at b5
        simp [wipeE, b5, k3, r3m]
    · generalize (((List.range N).filter fun m => gB R m).map fun m => PyData.tuple ((mem m s).map nI)) = pl at *
      simp [backE, keepVal, hy]
end LawT
namespace LawT
open PySem PySem.Spec L2 PyI
theorem or_up {s m x : Nat} (hm : m < 2 ^ s) (hx : x < s) : m ||| 2 ^ x < 2 ^ s := Nat.or_lt_two_pow hm (Nat.pow_lt_pow_right (by decide) hx)
theorem run_l_due (n : Nat) {s : Nat} (hs : s ≤ 12) {good : List Bool} (hgl : good.length = 2 ^ s) {ys : List PyData} (hy : sortedE [.list (pap s (rb s good (2 ^ s - 1)))] = some (.newL ys)) :
    runFn (prgAt T (n + 1)) f_l_due [.int s, .list (good.map .bool)] = some (.ret (if gB (eFold s good (2 ^ s - 1)) 0 = true then .tuple [.tuple ((oSt s (eFold s good (2 ^ s - 1)) s).1.map nI), .none] else .tuple [.none, .tuple ys])) := by
  have hz := sizeLine_val
  have hp := pow_le hs
  have hp1 : 1 ≤ 2 ^ s := Nat.one_le_two_pow
  have g3 := shl_1k s (by omega)
  have k3 : (prgAt T (n + 1)).call ("_law_members" : PySem.Str) = some (2, runFn (prgAt T n) f_l_members) := prg_call' (T := T) (n := n) (k := 2) (x := "_law_members") rfl rfl
  have r3 : ∀ m : Nat, runFn (prgAt T n) f_l_members [.int m, .int s] = _ := fun m => run_l_members _ m (by omega)
  have hok := okS (s := s) hgl
  have hne : ∀ k, k < s → OkS s (eFold s good (2 ^ s - 1)) k → cand s (eFold s good (2 ^ s - 1)) (oSt s (eFold s good (2 ^ s - 1)) k).2 ≠ [] := fun k hk o => cand_ne hgl o.lt (by rw [o.cn]; exact hk) o.gd
  have hup : ∀ m k, m < 2 ^ s → k < s → m ||| 2 ^ k < 2 ^ s := fun m k => or_up
  have hel := eFold_len s good
  have hes := eFold_succ s good
  have he0 : eFold s good 0 = good := rfl
  have hpap : pap s (rb s good (2 ^ s - 1)) = ((List.range (2 ^ s)).filter fun m => gB (rb s good (2 ^ s - 1)) m).map fun m => .tuple ((mem m s).map nI) := rfl
  rw [hpap] at hy
  refine runs_eq (runs_of rfl ?_)
  generalize eFold s good = F at *
  generalize hN : 2 ^ s = N at *
  have h1 : (N : Int) - 1 = ((N - 1 : Nat) : Int) := by omega
  have h1' : ((N - 1 : Nat) : Int) + 1 = (N : Int) := by omega
  have h2 : ∀ e : Ev, rngI e (some [.int 1, .int (N : Int)]) = some (.ok ((List.range (N - 1)).map fun n : Nat => .int ((n + 1 : Nat) : Int)) e) := fun e => by
    rw [rngI_2 (by omega), show ((N : Int) - 1).toNat = N - 1 by omega]
    congr 2
    refine List.map_congr_left fun n _ => ?_
    congr 1
    omega
  simp only [f_l_due, env0]
  simp [g3, h1, h1', h2]
  refine wp_seq (fun e => ∃ s4 s5 s6, e = [.val (.int s), .val (.list (good.map .bool)), .val (.int (N - 1 : Nat)), .own ((F (N - 1)).map .bool), s4, s5, s6, .und, .und, .und, .und, .und]) ?_ ?_
  · refine wp_forN (fun k e => ∃ s4 s5 s6, e = [.val (.int s), .val (.list (good.map .bool)), .val (.int (N - 1 : Nat)), .own ((F k).map .bool), s4, s5, s6, .und, .und, .und, .und, .und]) ⟨.und, .und, .und, by rw [he0]⟩ ?_ fun e h => h
    rintro j e hj ⟨s4, s5, s6, rfl⟩
    have e2 : ((N - 1 : Nat) : Int) - ((j : Int) + 1) = ((N - 1 - 1 - j : Nat) : Int) := by omega
    have hfl := hel j
    rw [hes]
    obtain ⟨m, hm⟩ : ∃ m, N - 1 - 1 - j = m := ⟨_, rfl⟩
    rw [hm] at e2 ⊢
    have hmN : m < N := by omega
    have hst : eStep s good (F j) m = (F j).set m (gB good m && (List.range s).any fun k => !m.testBit k && gB (F j) (m + 2 ^ k)) := rfl
    rw [hst]
    generalize F j = E at *
    have a1 := atB' (R := good) (k := m) (by omega)
    have a2 := ixNk (n := E.length) (k := m) (by omega)
    simp [exK_bnd, seqK_exK, bnd_bnd, e2]
    refine wp_exK (fComp_p (e0 := [.val (.int s), .val (.list (good.map .bool)), .val (.int (N - 1 : Nat)), .own (E.map .bool), .val (.int ((j : Int) + 1)), .val (.int m), s6, .und, .und, .und, .und, .und]) nI (fun k => !m.testBit k) (fun k => .bool (gB E (m ||| 2 ^ k))) (List.range s) (by simp (disch := first | omega | simp) [rngI_n]) (by rw [List.length_range]; omega) fun k hk => ?_) ?_
    · have hk' : k < s := List.mem_range.mp hk
      have b1 := shr_kn m k
      have b2 := bitM m k
      have b3 := shl_1k k (by omega)
      have b4 := hup m k hmN hk'
      have b5 := atB' (R := E) (k := m ||| 2 ^ k) (by omega)
      have b6 := bitO m (2 ^ k)
      generalize gB E (m ||| 2 ^ k) = x at *
      generalize m ||| 2 ^ k = y at *
      generalize 2 ^ k = q at *
      cases c : m.testBit k
      · rw [c] at b2
        simp [wipeE, b1, b2, b3, b6, b5, mod_ii]
      · rw [c] at b2
        simp [wipeE, b1, b2, mod_ii]
    · have hany : (((List.range s).filter fun k => !m.testBit k).map fun k => gB E (m ||| 2 ^ k)).any id = (List.range s).any fun k => !m.testBit k && gB E (m + 2 ^ k) := by
        rw [List.any_map, List.any_filter]
        congr 1
        funext k
        cases c : m.testBit k
        · rw [← or_low c]; rfl
        · rfl
      have hab := any_bl (((List.range s).filter fun k => !m.testBit k).map fun k => gB E (m ||| 2 ^ k))
      rw [hany, List.map_map] at hab
      have hab : Blt.any.run [.list (((List.range s).filter fun k => !m.testBit k).map fun k => PyData.bool (gB E (m ||| 2 ^ k)))] = _ := hab
      generalize (((List.range s).filter fun k => !m.testBit k).map fun k => PyData.bool (gB E (m ||| 2 ^ k))) = st at *
      generalize ((List.range s).any fun k => !m.testBit k && gB E (m + 2 ^ k)) = ab at *
      generalize gB good m = gb at *
      cases gb <;> simp [backE, keepVal, a1, hab, subL, a2]
  rintro _ ⟨s4, s5, s6, rfl⟩
  have hel1 : (F (N - 1)).length = N := by rw [hel, hgl]
  generalize F (N - 1) = E at *
  have a0 : atI (E.map PyData.bool) 0 = some (.bool (gB E 0)) := atB' (R := E) (k := 0) (by omega)
  have ag : atI (good.map PyData.bool) 0 = some (.bool (gB good 0)) := atB' (R := good) (k := 0) (by omega)
  by_cases c0 : gB E 0 = true
  · have hok := hok c0
    simp (disch := first | omega | simp) [a0, c0, rngI_n]
    refine wp_seqR (fun _ => False) ?_ fun _ h => h.elim
    refine wp_seqR (fun e => ∃ s5 s7 s9, e = [.val (.int s), .val (.list (good.map .bool)), .val (.int (N - 1 : Nat)), .own (E.map .bool), s4, s5, s6, s7, .own ((oSt s E s).1.map nI), s9, .und, .und]) ?_ ?_
    · refine wp_forN (fun k e => ∃ s7 s9, e = [.val (.int s), .val (.list (good.map .bool)), .val (.int (N - 1 : Nat)), .own (E.map .bool), s4, .val (.int ((oSt s E k).2 : Nat)), s6, s7, .own ((oSt s E k).1.map nI), s9, .und, .und]) ⟨.und, .und, rfl⟩ ?_ fun e ⟨s7, s9, h⟩ => ⟨_, s7, s9, h⟩
      rintro k e hks ⟨s7, s9, rfl⟩
      have hl := oSt_len s E k
      have o := hok k (by omega)
      have hsu : oSt s E (k + 1) = ((oSt s E k).1 ++ [mn (cand s E (oSt s E k).2)], (oSt s E k).2 + 2 ^ mn (cand s E (oSt s E k).2)) := rfl
      have hne := hne k hks o
      have hlt := o.lt
      have hmm := (cand_mem.mp (mn_mem hne)).1
      have hmb := or_low (cand_mem.mp (mn_mem hne)).2.1
      have hmin := min_n hne
      have hcd : cand s E (oSt s E k).2 = (List.range s).filter fun x => !(oSt s E k).2.testBit x && gB E ((oSt s E k).2 + 2 ^ x) := rfl
      rw [hsu]
      have hol : ((oSt s E k).1.map nI).length < 16777216 := by rw [List.length_map, hl]; omega
      have hup : ∀ x, x < s → (oSt s E k).2 ||| 2 ^ x < N := fun x hx => hup _ x (by rw [← hN]; exact hlt) hx
      generalize (oSt s E k).2 = m at *
      generalize (oSt s E k).1 = os at *
      have b0 := shl_1k (mn (cand s E m)) (by omega)
      simp [exK_bnd, seqK_exK, bnd_bnd]
      refine wp_exK (fComp_p (e0 := [.val (.int s), .val (.list (good.map .bool)), .val (.int (N - 1 : Nat)), .own (E.map .bool), s4, .val (.int m), s6, s7, .own (os.map nI), .val (.int k), .und, .und]) nI (fun x => !m.testBit x && gB E (m + 2 ^ x)) nI (List.range s) (by simp (disch := first | omega | simp) [rngI_n]) (by rw [List.length_range]; omega) fun x hx => ?_) ?_
      · have hx' : x < s := List.mem_range.mp hx
        have b1 := shr_kn m x
        have b2 := bitM m x
        have b3 := shl_1k x (by omega)
        cases c : m.testBit x
        · have b4 := hup x hx'
          have b5 := atB' (R := E) (k := m ||| 2 ^ x) (by omega)
          rw [c] at b2
          have b6 := bitO m (2 ^ x)
          rw [or_low c] at b5 b6
          generalize gB E (m + 2 ^ x) = y at *
          generalize m + 2 ^ x = z at *
          generalize 2 ^ x = q at *
          cases y <;> simp [wipeE, b1, b2, b3, b6, b5, mod_ii]
        · rw [c] at b2
          simp [wipeE, b1, b2, mod_ii]
      · rw [← hcd]
        have b6 := bitO m (2 ^ mn (cand s E m))
        rw [hmb] at b6
        generalize cand s E m = cs at *
        generalize hcl : cs.map nI = cl at *
        generalize mn cs = x at *
        generalize hzz : m + 2 ^ x = z at *
        have hzi : (z : Int) = (m : Int) + 2 ^ x := by rw [← hzz]; push_cast; rfl
        have hol2 : os.length < 16777216 := by simpa using hol
        rw [show (((2 ^ x : Nat) : Nat) : Int) = ((2 ^ x : Nat) : Int) from rfl] at b0
        generalize hq : ((2 ^ x : Nat) : Int) = q at *
        simp [backE, keepVal, hmin, hol2, b0, b6, hz]
        exact hzi
    · rintro _ ⟨s5, s7, s9, rfl⟩
      simp [hz]
  have c0 : gB E 0 = false := by simpa using c0
  simp [a0, c0, ag, hz, h1', h2]
  refine wp_seq (fun e => ∃ s5 s7, e = [.val (.int s), .val (.list (good.map .bool)), .val (.int (N - 1 : Nat)), .own (E.map .bool), s4, s5, s6, s7, .und, .und, .und, .own ((rb s good (N - 1)).map .bool)]) ?_ ?_
  · refine wp_forN (fun k e => ∃ s5 s7, e = [.val (.int s), .val (.list (good.map .bool)), .val (.int (N - 1 : Nat)), .own (E.map .bool), s4, s5, s6, s7, .und, .und, .und, .own ((rb s good k).map .bool)]) ⟨s5, .und, rfl⟩ ?_ fun e h => h
    rintro k e hk ⟨s5, s7, rfl⟩
    have hl := rb_len s good k
    have hsu : rb s good (k + 1) = rb s good k ++ [gB good (k + 1) && (mem (k + 1) s).any fun x => gB (rb s good k) (k + 1 - 2 ^ x)] := rfl
    rw [hsu]
    generalize rb s good k = R at *
    have a2 := atB' (R := good) (k := k + 1) (by omega)
    have r3k := r3 (k + 1)
    have hml : ∀ x ∈ mem (k + 1) s, x < s ∧ (k + 1).testBit x = true := fun x hx => mem_mem.mp hx
    have hmm : (mem (k + 1) s).length ≤ s := by
      unfold mem
      exact Nat.le_trans (List.length_filter_le _ _) (by simp)
    have hbl : ∀ x, (k + 1).testBit x = true → 2 ^ x ≤ k + 1 := fun x => bit_le
    have hbp : ∀ x, 0 < 2 ^ x := Nat.two_pow_pos
    generalize mem (k + 1) s = ms at *
    have hc : ((k : Int) + 1) = ((k + 1 : Nat) : Int) := by omega
    simp only [hc]
    generalize hm : k + 1 = m at *
    have hol : (R.map PyData.bool).length < 16777216 := by rw [List.length_map, hl]; omega
    cases hgb : gB good m
    · rw [hgb] at a2
      have hol2 : R.length < 16777216 := by simpa using hol
      simp [a2, hol2, hz]
    · rw [hgb] at a2
      simp [a2, exK_bnd, seqK_exK, bnd_bnd]
      refine wp_exK (fComp_f (e0 := [.val (.int s), .val (.list (good.map .bool)), .val (.int (N - 1 : Nat)), .own (E.map .bool), s4, .val (.int m), s6, s7, .und, .und, .und, .own (R.map .bool)]) nI (fun x => .bool (gB R (m - 2 ^ x))) ms (by simp [k3, r3k]) (by omega) fun x hx => ?_) ?_
      · obtain ⟨b1, b2⟩ := hml x hx
        have b3 := shl_1k x (by omega)
        have b4 := hbl x b2
        have b7 := hbp x
        have b5 := atB' (R := R) (k := m - 2 ^ x) (by omega)
        have b6 : ((m : Int) - ((2 ^ x : Nat) : Int)) = ((m - 2 ^ x : Nat) : Int) := by omega
        generalize gB R (m - 2 ^ x) = y at *
        generalize m - 2 ^ x = z at *
        generalize 2 ^ x = q at *
        simp [wipeE, b3, b6, b5]
      · have hab := any_bl (ms.map fun x => gB R (m - 2 ^ x))
        rw [List.any_map, List.map_map] at hab
        have hab : Blt.any.run [.list (ms.map fun x => PyData.bool (gB R (m - 2 ^ x)))] = some (.old (.bool (ms.any fun x => gB R (m - 2 ^ x)))) := hab
        generalize (ms.map fun x => PyData.bool (gB R (m - 2 ^ x))) = st at *
        generalize (ms.any fun x => gB R (m - 2 ^ x)) = ab at *
        have hol2 : R.length < 16777216 := by simpa using hol
        simp [backE, keepVal, hab, hol2, hz]
  · rintro _ ⟨s5, s7, rfl⟩
    have hl := rb_len s good (N - 1)
    generalize rb s good (N - 1) = R at *
    have hpl : (((List.range N).filter fun m => gB R m).map fun m => PyData.tuple ((mem m s).map nI)).length ≤ 4096 := by
      rw [List.length_map]
      exact Nat.le_trans (List.length_filter_le _ _) (by simp; omega)
    simp [exK_bnd, seqK_exK, bnd_bnd]
    refine wp_exK (fComp_p (e0 := [.val (.int s), .val (.list (good.map .bool)), .val (.int (N - 1 : Nat)), .own (E.map .bool), s4, s5, s6, s7, .und, .und, .und, .own (R.map .bool)]) nI (fun m => gB R m) (fun m => .tuple ((mem m s).map nI)) (List.range N) (by simp (disch := first | omega | simp) [rngI_n, h1']) (by rw [List.length_range]; omega) fun m hm => ?_) ?_
    · have hm' : m < N := List.mem_range.mp hm
      have b5 := atB' (R := R) (k := m) (by omega)
      have r3m := r3 m
      generalize (mem m s).map nI = ml at *
      cases c : gB R m
      · rw [c] at b5
        simp [wipeE, b5]
      · rw [c] at b5
        simp [wipeE, b5, k3, r3m]
    · generalize (((List.range N).filter fun m => gB R m).map fun m => PyData.tuple ((mem m s).map nI)) = pl at *
      simp [backE, keepVal, hy, hz]
end LawT
namespace PyI
open PySem PySem.Spec L2
theorem cut_takeG {ds : List PyData} {k : Int} (h0 : 0 ≤ k) (h1 : k ≤ ds.length) : cutP ds none (some k) = ds.take k.toNat := by
  obtain ⟨n, rfl⟩ := Int.eq_ofNat_of_zero_le h0
  unfold cutP
  rw [HT.sIx_none, HT.sIx_nat, Int.toNat_natCast]
  simp only [Nat.sub_zero, List.drop_zero]
  rw [List.take_eq_take_iff]
  omega
theorem cut_dropG {ds : List PyData} {k : Int} (h0 : 0 ≤ k) (h1 : k ≤ ds.length) : cutP ds (some k) none = ds.drop k.toNat := by
  obtain ⟨n, rfl⟩ := Int.eq_ofNat_of_zero_le h0
  unfold cutP
  rw [HT.sIx_none, HT.sIx_nat, Int.toNat_natCast]
  have h : n ≤ ds.length := by omega
  rw [Nat.min_eq_left h, List.take_of_length_le (by rw [List.length_drop]; omega)]
end PyI
namespace LawT
open PySem PySem.Spec L2 PyI
theorem run_l_order (P : Prg) (row : List Int) (at_ : Int) (h0 : 0 ≤ at_) (m : Nat) (hm : 1 ≤ m ∧ m ≤ 100) (hl : at_ + m ≤ row.length) : runs P f_l_order [.list (row.map .int), .int at_, .int m] fun d => ∃ os : List Int, d = .list (os.map .int) ∧ os.length = m ∧ ∀ x ∈ os, 0 ≤ x ∧ x < m := by
  have hz := sizeLine_val
  have hrd : ∀ {i : Int}, 0 ≤ i ∧ i < row.length → atI (row.map PyData.int) i = some (.int (gt row i)) := fun h => rd h.1 h.2
  refine runs_of rfl ?_
  obtain ⟨fr, hfr, hfl, hfm⟩ : ∃ fr : List Int, rgD 0 m = fr.map .int ∧ fr.length = m ∧ ∀ x ∈ fr, 0 ≤ x ∧ x < m := by
    refine ⟨(List.range m).map fun (i : Nat) => (i : Int), ?_, by simp, fun x hx => ?_⟩
    · unfold rgD
      rw [List.map_map, show ((m : Int) - 0).toNat = m by omega]
      exact List.map_congr_left fun i _ => by simp
    · obtain ⟨i, hi, rfl⟩ := List.mem_map.mp hx
      have := List.mem_range.mp hi
      omega
  have hr1 := rg1_i (t := false) (j := (m : Int)) ⟨by omega, by omega, by omega⟩
  rw [if_neg (by decide), hfr] at hr1
  simp (disch := first | omega | simp) [f_l_order, env0, hz, hr1, rngI_n]
  let E (fs os : List Int) (r : List PyI.Slot) : Ev := .val (.list (row.map .int)) :: .val (.int at_) :: .val (.int m) :: .own (fs.map .int) :: .own (os.map .int) :: r
  refine wp_seq (fun e => ∃ fs os r, os.length = m ∧ (∀ x ∈ os, 0 ≤ x ∧ x < (m : Int)) ∧ e = E fs os r) ?_ ?_
  · refine wp_forN (fun k e => ∃ (fs os : List Int) (s5 s6 : PyI.Slot), os.length = k ∧ (∀ x ∈ os, 0 ≤ x ∧ x < (m : Int)) ∧ fs.length = m - k ∧ (∀ x ∈ fs, 0 ≤ x ∧ x < (m : Int)) ∧ e = E fs os [s5, s6]) ⟨fr, [], _, _, rfl, fun x h => (by cases h), hfl, hfm, rfl⟩ ?_ (fun e ⟨fs, os, s5, s6, h1, h2, h3, h4, h5⟩ => ⟨fs, os, _, h1, h2, h5⟩)
    rintro k e hk ⟨fs, os, s5, s6, h1, h2, h3, h4, rfl⟩
    obtain ⟨p, hp, hp0, hp1⟩ : ∃ p : Int, gt row (at_ + k) % (fs.length : Int) = p ∧ 0 ≤ p ∧ p < fs.length := ⟨_, rfl, Int.emod_nonneg _ (by omega), Int.emod_lt_of_pos _ (by omega)⟩
    have hat := rd (row := fs) (i := p) hp0 hp1
    have hmem := gt_mem (row := fs) (i := p) hp0 hp1
    have c1 := cut_takeG (ds := fs.map .int) hp0 (by simp; omega)
    have c2 := cut_dropG (ds := fs.map .int) (k := p + 1) (by omega) (by simp; omega)
    have hcat := cat_ll (ds := (fs.take p.toNat).map .int) (es := (fs.drop (p + 1).toNat).map .int) (by simp; omega)
    rw [← List.map_take] at c1
    rw [← List.map_drop] at c2
    have hol : os.length < 16777216 := by omega
    simp (disch := first | omega | simp) [E, hz, hrd, mod_ii, hp, hat, hol, c1, c2, hcat, -List.map_take, -List.map_drop]
    refine ⟨fs.take p.toNat ++ fs.drop (p + 1).toNat, os ++ [gt fs p], by simp; omega, fun x hx => ?_, by simp; omega, fun x hx => ?_, by simp⟩
    · rcases List.mem_append.mp hx with h | h
      · exact h2 x h
      · rw [List.mem_singleton.mp h]; exact h4 _ hmem
    · rcases List.mem_append.mp hx with h | h
      · exact h4 x (List.mem_of_mem_take h)
      · exact h4 x (List.mem_of_mem_drop h)
  · rintro _ ⟨fs, os, r, h1, h2, rfl⟩
    simp [E]
    exact ⟨os, rfl, h1, h2⟩

/-- each pair once -/
def dd (xs : List (Nat × Nat)) : List (Nat × Nat) := ((List.range xs.length).filter fun k => !decide (xs.getD k (0, 0) ∈ xs.take k)).map fun k => xs.getD k (0, 0)
theorem dd_mem {xs : List (Nat × Nat)} {p : Nat × Nat} : p ∈ dd xs ↔ p ∈ xs := by
  unfold dd
  rw [List.mem_map]
  constructor
  · rintro ⟨k, hk, rfl⟩
    have := List.mem_range.mp (List.mem_filter.mp hk).1
    simp [List.getD_eq_getElem?_getD, List.getElem?_eq_getElem this]
  · intro h
    have h1 : xs.idxOf p < xs.length := List.idxOf_lt_length_of_mem h
    refine ⟨xs.idxOf p, List.mem_filter.mpr ⟨List.mem_range.mpr h1, ?_⟩, ?_⟩
    · simp only [Bool.not_eq_true', decide_eq_false_iff_not]
      have e : xs.getD (xs.idxOf p) (0, 0) = p := by simp [List.getD_eq_getElem?_getD, List.getElem?_eq_getElem h1]
      rw [e]
      intro hm
      obtain ⟨i, hi, he⟩ := List.getElem_of_mem hm
      rw [List.length_take] at hi
      rw [List.getElem_take] at he
      have : xs.idxOf p ≤ i := by
        rcases Nat.lt_or_ge i (xs.idxOf p) with h2 | h2
        · exact absurd he (by
            have := List.not_of_lt_findIdx (p := (· == p)) (xs := xs) (i := i) (by simpa [List.idxOf] using h2)
            intro e
            simp [e] at this)
        · exact h2
      omega
    · simp [List.getD_eq_getElem?_getD, List.getElem?_eq_getElem h1]
theorem dd_nodup (xs : List (Nat × Nat)) : (dd xs).Nodup := by
  unfold dd List.Nodup
  rw [List.pairwise_map]
  have h : ((List.range xs.length).filter fun k => !decide (xs.getD k (0, 0) ∈ xs.take k)).Pairwise (· < ·) := List.Pairwise.filter _ List.pairwise_lt_range
  refine h.imp_of_mem fun {a b} ha hb hab e => ?_
  have h1 := (List.mem_filter.mp hb).2
  have hbl := List.mem_range.mp (List.mem_filter.mp hb).1
  simp only [Bool.not_eq_true', decide_eq_false_iff_not] at h1
  apply h1
  rw [← e]
  simp only [List.getD_eq_getElem?_getD]
  rw [List.getElem?_eq_getElem (by omega)]
  simp only [Option.getD_some]
  rw [List.mem_take_iff_getElem]
  exact ⟨a, by omega, rfl⟩
theorem ssP_dd {xs : List (Nat × Nat)} : ssP (dd xs) = ssP xs := by
  unfold ssP
  congr 1
  refine List.filter_congr fun c _ => ?_
  simp only [decide_eq_decide]
  exact dd_mem
theorem ssP_le {xs : List (Nat × Nat)} (h : ∀ p ∈ xs, p.1 < 64 ∧ p.2 < 64) : (ssP xs).length ≤ xs.length := by
  have h1 : (ssP xs).Perm (dd xs) := (List.perm_ext_iff_of_nodup (ssP_nodup xs) (dd_nodup xs)).mpr fun p => (mem_ssP h p).trans dd_mem.symm
  rw [h1.length_eq]
  unfold dd
  rw [List.length_map]
  exact Nat.le_trans (List.length_filter_le _ _) (by simp)
theorem run_l_once (P : Prg) {xs : List (Nat × Nat)} (hb : ∀ p ∈ xs, p.1 < 64 ∧ p.2 < 64) (hl : xs.length ≤ 1000) : runFn P f_l_once [.list (xs.map ppD)] = some (.ret (.tuple ((ssP xs).map ppD))) := by
  have hz := sizeLine_val
  have hs := sorted_nd (xs := dd xs) (dd_nodup xs) fun p hp => hb p (dd_mem.mp hp)
  rw [ssP_dd] at hs
  refine runs_eq (runs_of rfl ?_)
  simp [f_l_once, env0, exK_bnd, seqK_exK, bnd_bnd]
  refine wp_exK (fComp_p (e0 := [.val (.list (xs.map ppD)), .und]) nI (fun k => !decide (xs.getD k (0, 0) ∈ xs.take k)) (fun k => ppD (xs.getD k (0, 0))) (List.range xs.length) (by simp (disch := first | omega | simp) [rngI_n]) (by rw [List.length_range]; omega) fun k hk => ?_) ?_
  · have hk' := List.mem_range.mp hk
    have a1 : atI (xs.map ppD) (k : Int) = some (ppD (xs.getD k (0, 0))) := by
      rw [atI_map, atI_of (by omega) (by omega)]
      simp [List.getD_eq_getElem?_getD, List.getElem?_eq_getElem hk']
    have c1 := cut_takeG (ds := xs.map ppD) (k := (k : Int)) (by omega) (by simp; omega)
    rw [Int.toNat_natCast, ← List.map_take] at c1
    have i1 : cmpD .NotIn (ppD (xs.getD k (0, 0))) (.list ((xs.take k).map ppD)) = some (.old (.bool (!decide (xs.getD k (0, 0) ∈ xs.take k)))) := (in_pp (xs.take k) _).2.1.trans (by congr)
    generalize xs.getD k (0, 0) = p at *
    generalize xs.take k = tk at *
    cases c : decide (p ∈ tk)
    · rw [c] at i1
      simp [wipeE, a1, c1, i1]
    · rw [c] at i1
      simp [wipeE, a1, c1, i1]
  · have e : ((List.range xs.length).filter fun k => !decide (xs.getD k (0, 0) ∈ xs.take k)).map (fun k => ppD (xs.getD k (0, 0))) = (dd xs).map ppD := by
      unfold dd
      rw [List.map_map]; rfl
    rw [e]
    generalize (dd xs).map ppD = ds at *
    simp [backE, keepVal, hs]
theorem run_l_right (n : Nat) {s : Nat} {old new ws : List (Nat × Nat)} (h : InT s old new ws) :
    runFn (prgAt T (n + 8)) f_l_right [.int s, .tuple (old.map ppD), .tuple (new.map ppD), .tuple (ws.map ppD)] = some (.ret (.bool true)) := by
  have hz := sizeLine_val
  have hs := h.s1
  have hp := pow_le hs
  have k1 : (prgAt T (n + 8)).call ("_law_speaking" : PySem.Str) = some (3, runFn (prgAt T (n + 7)) f_l_speaking) := prg_call' (T := T) (n := n + 7) (k := 3) (x := "_law_speaking") rfl rfl
  have k2 : (prgAt T (n + 8)).call ("_law_members" : PySem.Str) = some (2, runFn (prgAt T (n + 7)) f_l_members) := prg_call' (T := T) (n := n + 7) (k := 2) (x := "_law_members") rfl rfl
  have k3 : (prgAt T (n + 8)).call ("_law_all_joined" : PySem.Str) = some (3, runFn (prgAt T (n + 7)) f_l_all_joined) := prg_call' (T := T) (n := n + 7) (k := 3) (x := "_law_all_joined") rfl rfl
  have k4 : (prgAt T (n + 8)).call ("_law_due" : PySem.Str) = some (2, runFn (prgAt T (n + 7)) f_l_due) := prg_call' (T := T) (n := n + 7) (k := 2) (x := "_law_due") rfl rfl
  have k5 : (prgAt T (n + 8)).call ("_law_like" : PySem.Str) = some (2, runFn (prgAt T (n + 7)) f_l_like) := prg_call' (T := T) (n := n + 7) (k := 2) (x := "_law_like") rfl rfl
  have k6 : (prgAt T (n + 8)).call ("safe_order" : PySem.Str) = some (4, runFn (prgAt T (n + 7)) f_safe_order) := prg_call' (T := T) (n := n + 7) (k := 4) (x := "safe_order") rfl rfl
  have k7 : (prgAt T (n + 8)).call ("blocked_paper" : PySem.Str) = some (4, runFn (prgAt T (n + 7)) f_blocked_paper) := prg_call' (T := T) (n := n + 7) (k := 4) (x := "blocked_paper") rfl rfl
  have r2 : ∀ m : Nat, runFn (prgAt T (n + 7)) f_l_members [.int m, .int s] = _ := fun m => run_l_members _ m (by omega)
  have r1 : ∀ m : Nat, runFn (prgAt T (n + 7)) f_l_speaking [.tuple (old.map ppD), .tuple (new.map ppD), .tuple ((mem m s).map nI)] = _ := fun m => run_l_speaking _ (mem m s) h.b h.len h.ond h.nnd
  have r3 : ∀ m : Nat, runFn (prgAt T (n + 7)) f_l_all_joined [.int s, .tuple ((spk old new (mem m s)).map ppD), .tuple (ws.map ppD)] = some (.ret (.bool (gm s old new ws m))) := fun m => run_l_all_joined _ (by omega) (h.spk _) h.wl h.wlen
  obtain ⟨ys, hy, hyl, hym⟩ := srt_pap s (gms s old new ws) (2 ^ s - 1)
  have hgl : (gms s old new ws).length = 2 ^ s := by unfold gms; simp
  have r4 := run_l_due (n + 6) hs hgl hy
  have r6 := run_safe_order (n + 4) h
  have r7 := run_blocked_paper (n + 4) h hy
  have hlk : ∀ d, likeOk (n + 6) d = true → runFn (prgAt T (n + 7)) f_l_like [d, d] = some (.ret (.bool true)) := fun d hd => run_like (T := T) rfl rfl (n + 6) d hd
  have hmn : ∀ (k : Nat) (os : List Nat), os.length ≤ 1000000 → likeOk (k + 1) (.tuple (os.map nI)) = true := fun k os ho => by
    show (decide ((os.map nI).length ≤ 1000000) && (os.map nI).all (likeOk k)) = true
    rw [Bool.and_eq_true, List.all_eq_true]
    refine ⟨decide_eq_true (by rw [List.length_map]; exact ho), fun d hd => ?_⟩
    obtain ⟨j, _, rfl⟩ := List.mem_map.mp hd
    unfold likeOk
    rfl
  have hml : ∀ m, (mem m s).length ≤ 1000000 := fun m => by
    unfold mem
    have := List.length_filter_le (fun k => m.testBit k) (List.range s)
    rw [List.length_range] at this
    omega
  have q1 := hlk .none (by unfold likeOk; rfl)
  have q2 : ∀ os : List Nat, os.length ≤ 1000000 → _ := fun os ho => hlk (.tuple (os.map nI)) (hmn _ os ho)
  have q3 := hlk (.tuple ys) (by
    show (decide (ys.length ≤ 1000000) && ys.all (likeOk (n + 5))) = true
    rw [Bool.and_eq_true, List.all_eq_true]
    refine ⟨decide_eq_true (by omega), fun d hd => ?_⟩
    obtain ⟨m, rfl⟩ := hym d hd
    exact hmn _ _ (hml m))
  have q4 := q2 (oSt s (eFold s (gms s old new ws) (2 ^ s - 1)) s).1 (by rw [oSt_len]; omega)
  have g3 := shl_1k s (by omega)
  have hg : gms s old new ws = (List.range (2 ^ s)).map (gm s old new ws) := rfl
  refine runs_eq (runs_of rfl ?_)
  generalize hod : (oSt s (eFold s (gms s old new ws) (2 ^ s - 1)) s).1.map nI = od at *
  generalize gB (eFold s (gms s old new ws) (2 ^ s - 1)) 0 = fl at *
  rw [hg] at r4
  generalize gm s old new ws = G at *
  generalize 2 ^ s = N at *
  generalize hov : (old.map ppD) = ov at *
  generalize hnv : (new.map ppD) = nv at *
  generalize hwv : (ws.map ppD) = wv at *
  simp (disch := first | omega | simp) [f_l_right, env0, g3, rngI_n, hz]
  refine wp_seq (fun e => ∃ s5 s6, e = [.val (.int s), .val (.tuple ov), .val (.tuple nv), .val (.tuple wv), .own (((List.range N).map G).map .bool), s5, s6, .und, .und]) ?_ ?_
  · refine wp_forN (fun k e => ∃ s5 s6, e = [.val (.int s), .val (.tuple ov), .val (.tuple nv), .val (.tuple wv), .own (((List.range k).map G).map .bool), s5, s6, .und, .und]) ⟨.und, .und, rfl⟩ ?_ fun e h => h
    rintro k e hk ⟨s5, s6, rfl⟩
    have hl : (((List.range k).map G).map PyData.bool).length < 16777216 := by simp; omega
    have fin : ∀ s5 s6 : PyI.Slot, ∃ s5' s6', [PyI.Slot.val (.int s), .val (.tuple ov), .val (.tuple nv), .val (.tuple wv), .own (((List.range k).map G).map .bool ++ [.bool (G k)]), s5, s6, .und, .und] = [PyI.Slot.val (.int s), .val (.tuple ov), .val (.tuple nv), .val (.tuple wv), .own (((List.range (k + 1)).map G).map .bool), s5', s6', .und, .und] := fun s5 s6 => ⟨s5, s6, by rw [List.range_succ]; simp⟩
    generalize (((List.range k).map G).map PyData.bool) = os at *
    simp [k1, k2, k3, r1, r2, r3, hl, hz]
    simpa using fin .und .und
  · rintro _ ⟨s5, s6, rfl⟩
    generalize ((List.range N).map G).map PyData.bool = gv at *
    cases fl
    · simp at r4 r6 r7
      simp [k4, r4, k5, k6, k7, r6, r7, q1, q3, hz]
    · simp at r4 r6 r7
      simp [k4, r4, k5, k6, k7, r6, r7, q1, q4, hz]
end LawT
namespace LawT
open PySem PySem.Spec L2 PyI
/-- at most L pairs below s -/
def BL (s L : Nat) (xs : List (Nat × Nat)) : Prop := xs.length ≤ L ∧ ∀ p ∈ xs, p.1 < s ∧ p.2 < s
theorem BL.nil {s L : Nat} : BL s L [] := ⟨Nat.zero_le _, fun p h => by cases h⟩
theorem BL.le {s L L' : Nat} {xs : List (Nat × Nat)} (h : BL s L xs) (hl : L ≤ L') : BL s L' xs := ⟨Nat.le_trans h.1 hl, h.2⟩
theorem BL.app {s L L' : Nat} {xs ys : List (Nat × Nat)} (h : BL s L xs) (h' : BL s L' ys) : BL s (L + L') (xs ++ ys) := ⟨by
  have := h.1
  have := h'.1
  rw [List.length_append]; omega, fun p hp => by
  rcases List.mem_append.mp hp with hp | hp
  · exact h.2 p hp
  · exact h'.2 p hp⟩
theorem BL.one {s a b : Nat} (ha : a < s) (hb : b < s) : BL s 1 [(a, b)] := ⟨Nat.le_refl _, fun p hp => by rw [List.mem_singleton.mp hp]; exact ⟨ha, hb⟩⟩
theorem BL.cons {s a b L : Nat} {xs : List (Nat × Nat)} (ha : a < s) (hb : b < s) (h : BL s L xs) : BL s (L + 1) ((a, b) :: xs) := ⟨by
  have := h.1
  simp only [List.length_cons]; omega, fun p hp => by
  rcases List.mem_cons.mp hp with rfl | hp
  · exact ⟨ha, hb⟩
  · exact h.2 p hp⟩
theorem BL.fil {s L : Nat} {xs : List (Nat × Nat)} (h : BL s L xs) (q : Nat × Nat → Bool) : BL s L (xs.filter q) := ⟨Nat.le_trans (List.length_filter_le _ _) h.1, fun p hp => h.2 p (List.mem_filter.mp hp).1⟩
theorem BL.b {s L : Nat} {xs : List (Nat × Nat)} (h : BL s L xs) (hs : s ≤ 12) : ∀ p ∈ xs, p.1 < 64 ∧ p.2 < 64 := fun p hp => by
  have := h.2 p hp
  omega
theorem BL.ss {s L : Nat} {xs : List (Nat × Nat)} (h : BL s L xs) (hs : s ≤ 12) : BL s L (ssP xs) := ⟨Nat.le_trans (ssP_le (h.b hs)) h.1, fun p hp => h.2 p ((mem_ssP (h.b hs) p).mp hp)⟩
theorem run_l_editions (n : Nat) {row : List Int} (hrl : 24 ≤ row.length) {s : Nat} (hs : 2 ≤ s ∧ s ≤ 12) :
    runs (prgAt T (n + 1)) f_l_editions [.list (row.map .int), .int 0, .int s] fun d => ∃ o w u : List (Nat × Nat), BL s 17 o ∧ BL s 17 w ∧ BL s 17 u ∧ d = .tuple [.tuple ((ssP o).map ppD), .tuple ((ssP w).map ppD), .tuple ((ssP u).map ppD)] := by
  have hz := sizeLine_val
  have hrd : ∀ {i : Int}, 0 ≤ i ∧ i < 24 → atI (row.map PyData.int) i = some (.int (gt row i)) := fun h => rd h.1 (by omega)
  have k1 : (prgAt T (n + 1)).call ("_law_order" : PySem.Str) = some (3, runFn (prgAt T n) f_l_order) := prg_call' (T := T) (n := n) (k := 3) (x := "_law_order") rfl rfl
  have k2 : (prgAt T (n + 1)).call ("_law_once" : PySem.Str) = some (1, runFn (prgAt T n) f_l_once) := prg_call' (T := T) (n := n) (k := 1) (x := "_law_once") rfl rfl
  obtain ⟨_, r1, os, rfl, hol, hob⟩ := run_l_order (prgAt T n) row 0 (by decide) s ⟨by omega, by omega⟩ (by omega)
  have r2 : ∀ {xs : List (Nat × Nat)}, BL s 30 xs → runFn (prgAt T n) f_l_once [.list (xs.map ppD)] = some (.ret (.tuple ((ssP xs).map ppD))) := fun h => run_l_once _ (h.b hs.2) (Nat.le_trans h.1 (by decide))
  refine runs_of rfl ?_
  obtain ⟨t, ht, ht1⟩ : ∃ t : Nat, gt row 8 % 11 = (t : Int) ∧ t ≤ 10 := ⟨(gt row 8 % 11).toNat, by omega, by omega⟩
  simp (disch := first | omega | simp) [f_l_editions, env0, k1, r1, hz, hrd, mod_ii, ht, rngI_n]
  let E (o w u : List (Nat × Nat)) (r : List PyI.Slot) : Ev := .val (.list (row.map .int)) :: .val (.int 0) :: .val (.int s) :: .val (.list (os.map .int)) :: .own (o.map ppD) :: .own (w.map ppD) :: .own (u.map ppD) :: r
  let I (L : Nat) (e : Ev) : Prop := ∃ o w u s7 s8 s9 s10 s11, BL s L o ∧ BL s L w ∧ BL s L u ∧ e = E o w u [s7, s8, s9, s10, s11, .und, .und, .und, .und, .und, .und, .und]
  refine wp_seq (I 10) ?_ ?_
  · refine wp_forN I ⟨[], [], [], _, _, _, _, _, .nil, .nil, .nil, rfl⟩ ?_ fun e ⟨o, w, u, s7, s8, s9, s10, s11, h1, h2, h3, h4⟩ => ⟨o, w, u, s7, s8, s9, s10, s11, h1.le ht1, h2.le ht1, h3.le ht1, h4⟩
    rintro k e hk ⟨o, w, u, s7, s8, s9, s10, s11, ho, hw, hu, rfl⟩
    obtain ⟨a, ha, ha1⟩ : ∃ a : Nat, gt row (10 + (k : Int)) % (s : Int) = (a : Int) ∧ a < s := by
      have h1 := Int.emod_nonneg (gt row (10 + (k : Int))) (b := (s : Int)) (by omega)
      have h2 := Int.emod_lt_of_pos (gt row (10 + (k : Int))) (b := (s : Int)) (by omega)
      exact ⟨(gt row (10 + (k : Int)) % (s : Int)).toNat, by omega, by omega⟩
    obtain ⟨b, hb, hb1⟩ : ∃ b : Nat, ((a : Int) + 1 + gt row (10 + (k : Int)) / (s : Int) % ((s : Int) - 1)) % (s : Int) = (b : Int) ∧ b < s := by
      generalize ((a : Int) + 1 + gt row (10 + (k : Int)) / (s : Int) % ((s : Int) - 1)) = x
      have h1 := Int.emod_nonneg x (b := (s : Int)) (by omega)
      have h2 := Int.emod_lt_of_pos x (b := (s : Int)) (by omega)
      exact ⟨(x % (s : Int)).toNat, by omega, by omega⟩
    have hl1 : (o.map ppD).length < 16777216 := by have := ho.1; rw [List.length_map]; omega
    have hl2 : (w.map ppD).length < 16777216 := by have := hw.1; rw [List.length_map]; omega
    have hl3 : (u.map ppD).length < 16777216 := by have := hu.1; rw [List.length_map]; omega
    have fin : ∀ (c1 c2 c3 : Bool) (s7 s8 s9 s10 s11 : PyI.Slot), I (k + 1) (.val (.list (row.map .int)) :: .val (.int 0) :: .val (.int s) :: .val (.list (os.map .int)) :: .own (if c1 = true then o.map ppD ++ [.tuple [.int a, .int b]] else o.map ppD) :: .own (if c2 = true then w.map ppD ++ [.tuple [.int a, .int b]] else w.map ppD) :: .own (if c3 = true then u.map ppD ++ [.tuple [.int a, .int b]] else u.map ppD) :: [s7, s8, s9, s10, s11, .und, .und, .und, .und, .und, .und, .und]) := fun c1 c2 c3 s7 s8 s9 s10 s11 => by
      have one : BL s 1 [(a, b)] := .one ha1 hb1
      have sel : ∀ (c : Bool) {xs : List (Nat × Nat)}, BL s k xs → ∃ ys, BL s (k + 1) ys ∧ (if c = true then xs.map ppD ++ [.tuple [.int a, .int b]] else xs.map ppD) = ys.map ppD := fun c xs h => by
        cases c
        · exact ⟨xs, h.le (Nat.le_succ _), rfl⟩
        · exact ⟨xs ++ [(a, b)], h.app one, by simp [ppD]⟩
      obtain ⟨o', h1, e1⟩ := sel c1 ho
      obtain ⟨w', h2, e2⟩ := sel c2 hw
      obtain ⟨u', h3, e3⟩ := sel c3 hu
      exact ⟨o', w', u', s7, s8, s9, s10, s11, h1, h2, h3, by rw [e1, e2, e3]⟩
    have hr1 := hrd (i := 10 + (k : Int)) ⟨by omega, by omega⟩
    generalize hcell : gt row (10 + (k : Int)) = cell at *
    obtain ⟨kd, hkd⟩ : ∃ kd : Int, cell / (s : Int) / ((s : Int) - 1) % 4 = kd := ⟨_, rfl⟩
    obtain ⟨xd, hxd⟩ : ∃ xd : Int, cell / (s : Int) / ((s : Int) - 1) / 4 % 3 = xd := ⟨_, rfl⟩
    have d1 : binD .FloorDiv (.int cell) (.int (s : Int)) = _ := div_ii ⟨by omega, by omega⟩
    have d2 : binD .FloorDiv (.int (cell / (s : Int))) (.int ((s : Int) - 1)) = _ := div_ii ⟨by omega, by omega⟩
    have d3 : binD .Mod (.int (cell / (s : Int))) (.int ((s : Int) - 1)) = _ := mod_ii (by omega)
    have d4 : binD .Mod (.int cell) (.int (s : Int)) = _ := mod_ii (by omega)
    have d5 : binD .Mod (.int ((a : Int) + 1 + cell / (s : Int) % ((s : Int) - 1))) (.int (s : Int)) = _ := mod_ii (by omega)
    rw [ha] at d4
    rw [hb] at d5
    have fin := fun c1 c2 c3 => fin c1 c2 c3 (.val (.int k)) (.val (.int cell)) (.val (.int a)) (.val (.tuple [.int a, .int b])) (.val (.int kd))
    simp only [E]
    generalize o.map ppD = ov at *
    generalize w.map ppD = wv at *
    generalize u.map ppD = uv at *
    by_cases c1 : kd = 1 <;> by_cases c2 : kd = 0 <;> by_cases c3 : (k : Int) < 2 <;> by_cases c4 : 0 < xd
    all_goals
      have f := fin (!decide (kd = 1)) (!decide (kd = 0)) (decide ((k : Int) < 2) && decide (0 < xd))
      simp [c1, c2, c3, c4] at f
      try simp [c1, c2] at hkd
      simp (disch := first | omega | simp) [E, hr1, d1, d2, d3, d4, d5, div_ii, mod_ii, hkd, hxd, hz, hl1, hl2, hl3, c1, c2, c3, c4]
      exact f
  rintro _ ⟨o, w, u, s7, s8, s9, s10, s11, ho, hw, hu, rfl⟩
  obtain ⟨sy, hsy, hsy1⟩ : ∃ sy : Int, gt row 9 % 8 = sy ∧ 0 ≤ sy := ⟨_, rfl, by omega⟩
  have hr9 := hrd (i := 9) ⟨by omega, by omega⟩
  simp (disch := first | omega | simp) [E, hr9, hsy, mod_ii]
  let J (e : Ev) : Prop := ∃ o w u r, BL s 17 o ∧ BL s 17 w ∧ BL s 17 u ∧ e = E o w u r
  refine wp_seq J ?_ ?_
  rotate_left
  · rintro _ ⟨o, w, u, r, ho, hw, hu, rfl⟩
    have q1 := r2 (ho.le (by decide : 17 ≤ 30))
    have q2 := r2 (hw.le (by decide : 17 ≤ 30))
    have q3 := r2 (hu.le (by decide : 17 ≤ 30))
    have fin : ∃ o' w' u' : List (Nat × Nat), BL s 17 o' ∧ BL s 17 w' ∧ BL s 17 u' ∧ PyData.tuple [.tuple ((ssP o).map ppD), .tuple ((ssP w).map ppD), .tuple ((ssP u).map ppD)] = .tuple [.tuple ((ssP o').map ppD), .tuple ((ssP w').map ppD), .tuple ((ssP u').map ppD)] := ⟨o, w, u, ho, hw, hu, rfl⟩
    simp only [E]
    generalize o.map ppD = ov at *
    generalize w.map ppD = wv at *
    generalize u.map ppD = uv at *
    generalize (ssP o).map ppD = ov2 at *
    generalize (ssP w).map ppD = wv2 at *
    generalize (ssP u).map ppD = uv2 at *
    simp [k2, q1, q2, q3, hz]
    simpa using fin
  by_cases c1 : 3 < s
  case neg =>
    have c1' : ¬ (3 : Int) < (s : Int) := by omega
    simp [c1', c1]
    exact ⟨o, w, u, _, ho.le (by decide), hw.le (by decide), hu.le (by decide), rfl⟩
  by_cases c2 : 0 < sy
  case neg =>
    simp [c2]
    exact ⟨o, w, u, _, ho.le (by decide), hw.le (by decide), hu.le (by decide), rfl⟩
  have c1' : (3 : Int) < (s : Int) := by omega
  have osn : ∀ i : Nat, i < s → ∃ a : Nat, atI (os.map PyData.int) (i : Int) = some (.int (a : Int)) ∧ a < s := fun i hi => by
    have h1 := rd (row := os) (i := (i : Int)) (by omega) (by omega)
    have h2 := hob _ (gt_mem (row := os) (i := (i : Int)) (by omega) (by omega))
    exact ⟨(gt os i).toNat, by rw [h1, Int.toNat_of_nonneg h2.1], by omega⟩
  obtain ⟨a, ha, ha1⟩ := osn 0 (by omega)
  obtain ⟨b, hb, hb1⟩ := osn 1 (by omega)
  obtain ⟨x, hx, hx1⟩ := osn 2 (by omega)
  obtain ⟨y, hy, hy1⟩ := osn 3 (by omega)
  have ha : atI (os.map PyData.int) 0 = some (.int (a : Int)) := ha
  have hb : atI (os.map PyData.int) 1 = some (.int (b : Int)) := hb
  have hx : atI (os.map PyData.int) 2 = some (.int (x : Int)) := hx
  have hy : atI (os.map PyData.int) 3 = some (.int (y : Int)) := hy
  let gn : List (Nat × Nat) := [(a, b), (a, x), (a, y), (x, b), (y, b)]
  have hgn : [PyData.tuple [.int (a : Int), .int (b : Int)], .tuple [.int (a : Int), .int (x : Int)], .tuple [.int (a : Int), .int (y : Int)], .tuple [.int (x : Int), .int (b : Int)], .tuple [.int (y : Int), .int (b : Int)]] = gn.map ppD := rfl
  have ni : ∀ (gs : List (Nat × Nat)) (p : Nat × Nat), cmpD .NotIn (ppD p) (.list (gs.map ppD)) = some (.old (.bool (!decide (p ∈ gs)))) := fun gs p => (in_pp gs p).2.1.trans (by congr)
  have t2 : ∀ c d c' d' : Nat, [PyData.tuple [.int (c : Int), .int (d : Int)], .tuple [.int (c' : Int), .int (d' : Int)]] = [(c, d), (c', d')].map ppD := fun _ _ _ _ => rfl
  have t1 : ∀ c d : Nat, [PyData.tuple [.int (c : Int), .int (d : Int)]] = [(c, d)].map ppD := fun _ _ => rfl
  have catB : ∀ {L : Nat} {xs : List (Nat × Nat)} (ys : List (Nat × Nat)), BL s L xs → L ≤ 100 → ys.length ≤ 2 → binD .Add (.list (xs.map ppD)) (.list (ys.map ppD)) = some (.newL ((xs ++ ys).map ppD)) := fun ys h hL hy => by
    have := h.1
    rw [cat_ll (by simp; omega), List.map_append]
  simp (disch := first | omega | simp) [c1', c1, c2, ha, hb, hx, hy, hz, exK_bnd, seqK_exK, bnd_bnd, hgn]
  have hol1 : ∀ {L : Nat} {xs : List (Nat × Nat)}, BL s L xs → L ≤ 100 → xs.length ≤ 16777216 := fun h hL => by
    have := h.1; omega
  -- old
  have ho2 := (ho.fil fun p => !decide (p ∈ gn)).app (.cons ha1 hx1 (.one hx1 hb1))
  refine wp_exK (fComp_p (e0 := [.val (.list (row.map .int)), .val (.int 0), .val (.int s), .val (.list (os.map .int)), .val (.list (o.map ppD)), .own (w.map ppD), .own (u.map ppD), s7, s8, s9, s10, s11, .val (.int sy), .val (.int a), .val (.int b), .val (.int x), .val (.int y), .own (gn.map ppD), .und]) ppD (fun p => !decide (p ∈ gn)) ppD o (by simp) (by have := ho.1; omega) fun p hp => ?_) ?_
  · have i1 := ni gn p
    generalize decide (p ∈ gn) = c at *
    cases c <;> simp [wipeE, i1]
  have e1 : binD .Add (.list ((o.filter fun p => !decide (p ∈ gn)).map ppD)) (.list [.tuple [.int (a : Int), .int (x : Int)], .tuple [.int (x : Int), .int (b : Int)]]) = _ := catB [(a, x), (x, b)] (ho.fil fun p => !decide (p ∈ gn)) (by decide) (by simp)
  generalize (o.filter fun p => !decide (p ∈ gn)) ++ [(a, x), (x, b)] = o2 at *
  generalize hof : (o.filter fun p => !decide (p ∈ gn)) = of at *
  obtain ⟨s10', hs10⟩ : ∃ s10' : PyI.Slot, keepVal (some s10) = s10' := ⟨_, rfl⟩
  simp (disch := first | omega | simp) [hz, e1, exK_bnd, seqK_exK, bnd_bnd, backE, hs10]
  -- new
  have hw2 := (hw.fil fun p => !decide (p ∈ gn)).app (.cons ha1 hy1 (.one hy1 hb1))
  refine wp_exK (fComp_p (e0 := [.val (.list (row.map .int)), .val (.int 0), .val (.int s), .val (.list (os.map .int)), .own (o2.map ppD), .val (.list (w.map ppD)), .own (u.map ppD), s7, s8, s9, s10', s11, .val (.int sy), .val (.int a), .val (.int b), .val (.int x), .val (.int y), .own (gn.map ppD), .und]) ppD (fun p => !decide (p ∈ gn)) ppD w (by simp) (by have := hw.1; omega) fun p hp => ?_) ?_
  · have i1 := ni gn p
    generalize decide (p ∈ gn) = c at *
    cases c <;> simp [wipeE, i1]
  have e2 : binD .Add (.list ((w.filter fun p => !decide (p ∈ gn)).map ppD)) (.list [.tuple [.int (a : Int), .int (y : Int)], .tuple [.int (y : Int), .int (b : Int)]]) = _ := catB [(a, y), (y, b)] (hw.fil fun p => !decide (p ∈ gn)) (by decide) (by simp)
  generalize (w.filter fun p => !decide (p ∈ gn)) ++ [(a, y), (y, b)] = w2 at *
  generalize hwf : (w.filter fun p => !decide (p ∈ gn)) = wf at *
  obtain ⟨s10, hs10⟩ : ∃ s10 : PyI.Slot, keepVal (some s10') = s10 := ⟨_, rfl⟩
  simp (disch := first | omega | simp) [hz, e2, exK_bnd, backE, hs10, mod_ii]
  generalize gn.map ppD = gv at *
  -- three more
  let J2 (L : Nat) (e : Ev) : Prop := ∃ o w, BL s L o ∧ BL s L w ∧ e = E o w u [s7, s8, s9, s10, s11, .val (.int sy), .val (.int a), .val (.int b), .val (.int x), .val (.int y), .own gv, .und]
  refine wp_seq (J2 13) ?_ ?_
  · have hl : (w2.map ppD).length < 16777216 := by have := hw2.1; rw [List.length_map]; omega
    by_cases d1 : sy % 4 = 1 <;> by_cases d2 : sy % 4 = 2
    · omega
    all_goals
      simp [d1, d2, hz, hl]
    · exact ⟨o2, w2, ho2.le (by decide), hw2.le (by decide), rfl⟩
    · exact ⟨o2, w2, ho2.le (by decide), hw2.le (by decide), rfl⟩
    · have hl2 : w2.length < 16777216 := by simpa using hl
      simp [hl2]
      exact ⟨o2, w2 ++ [(x, b)], ho2.le (by decide), (hw2.app (.one hx1 hb1)).le (by decide), by simp [E, ppD]⟩
  rintro _ ⟨o3, w3, ho3, hw3, rfl⟩
  simp only [E]
  simp (disch := first | omega | simp) [mod_ii]
  refine wp_seq (J2 14) ?_ ?_
  · have hl2 : o3.length < 16777216 := by have := ho3.1; omega
    by_cases d1 : sy % 4 = 1 <;> by_cases d2 : sy % 4 = 3
    · omega
    all_goals
      simp [d1, d2, hz, hl2]
    · exact ⟨o3, w3, ho3.le (by decide), hw3.le (by decide), rfl⟩
    · exact ⟨o3, w3, ho3.le (by decide), hw3.le (by decide), rfl⟩
    · exact ⟨o3 ++ [(y, b)], w3, (ho3.app (.one hy1 hb1)).le (by decide), hw3.le (by decide), by simp [E, ppD]⟩
  rintro _ ⟨o4, w4, ho4, hw4, rfl⟩
  simp only [E]
  simp
  let J3 (e : Ev) : Prop := ∃ o w s10 s18, BL s 17 o ∧ BL s 17 w ∧ e = E o w u [s7, s8, s9, s10, s11, .val (.int sy), .val (.int a), .val (.int b), .val (.int x), .val (.int y), .own gv, s18]
  refine wp_seq J3 ?_ ?_
  · by_cases d1 : 4 < s
    case neg =>
      have d1' : ¬ (4 : Int) < (s : Int) := by omega
      simp [d1', d1]
      exact ⟨o4, w4, _, _, ho4.le (by decide), hw4.le (by decide), rfl⟩
    by_cases d2 : sy = 1
    case neg =>
      simp [d2]
      exact ⟨o4, w4, _, _, ho4.le (by decide), hw4.le (by decide), rfl⟩
    have d1' : (4 : Int) < (s : Int) := by omega
    obtain ⟨z, hz4, hz1⟩ := osn 4 d1
    have hz4 : atI (os.map PyData.int) 4 = some (.int (z : Int)) := hz4
    let zn : List (Nat × Nat) := [(a, z), (z, b)]
    have hzn : [PyData.tuple [.int (a : Int), .int (z : Int)], .tuple [.int (z : Int), .int (b : Int)]] = zn.map ppD := rfl
    simp (disch := first | omega | simp) [d1', d1, d2, hz4, hz, exK_bnd, seqK_exK, bnd_bnd]
    refine wp_exK (fComp_p (e0 := [.val (.list (row.map .int)), .val (.int 0), .val (.int s), .val (.list (os.map .int)), .val (.list (o4.map ppD)), .own (w4.map ppD), .own (u.map ppD), s7, s8, s9, s10, s11, .val (.int 1), .val (.int a), .val (.int b), .val (.int x), .val (.int y), .own gv, .val (.int z)]) ppD (fun p => !decide (p ∈ zn)) ppD o4 (by simp) (by have := ho4.1; omega) fun p hp => ?_) ?_
    · have i1 := ni zn p
      rw [← hzn] at i1
      generalize decide (p ∈ zn) = c at *
      cases c <;> simp [wipeE, i1, hz]
    have ho5 := (ho4.fil fun p => !decide (p ∈ zn)).app (.cons ha1 hz1 (.one hz1 hb1))
    have e3 : binD .Add (.list ((o4.filter fun p => !decide (p ∈ zn)).map ppD)) (.list [.tuple [.int (a : Int), .int (z : Int)], .tuple [.int (z : Int), .int (b : Int)]]) = _ := catB [(a, z), (z, b)] (ho4.fil fun p => !decide (p ∈ zn)) (by decide) (by simp)
    generalize (o4.filter fun p => !decide (p ∈ zn)) ++ [(a, z), (z, b)] = o5 at *
    generalize hof5 : (o4.filter fun p => !decide (p ∈ zn)) = of5 at *
    obtain ⟨t10, ht10⟩ : ∃ t10 : PyI.Slot, keepVal (some s10) = t10 := ⟨_, rfl⟩
    simp (disch := first | omega | simp) [hz, e3, exK_bnd, seqK_exK, bnd_bnd, backE, ht10]
    refine wp_exK (fComp_p (e0 := [.val (.list (row.map .int)), .val (.int 0), .val (.int s), .val (.list (os.map .int)), .own (o5.map ppD), .val (.list (w4.map ppD)), .own (u.map ppD), s7, s8, s9, t10, s11, .val (.int 1), .val (.int a), .val (.int b), .val (.int x), .val (.int y), .own gv, .val (.int z)]) ppD (fun p => !decide (p ∈ zn)) ppD w4 (by simp) (by have := hw4.1; omega) fun p hp => ?_) ?_
    · have i1 := ni zn p
      rw [← hzn] at i1
      generalize decide (p ∈ zn) = c at *
      cases c <;> simp [wipeE, i1, hz]
    have hw5 := (hw4.fil fun p => !decide (p ∈ zn)).app (.one ha1 hz1)
    have e4 : binD .Add (.list ((w4.filter fun p => !decide (p ∈ zn)).map ppD)) (.list [.tuple [.int (a : Int), .int (z : Int)]]) = _ := catB [(a, z)] (hw4.fil fun p => !decide (p ∈ zn)) (by decide) (by simp)
    generalize (w4.filter fun p => !decide (p ∈ zn)) ++ [(a, z)] = w5 at *
    generalize hwf5 : (w4.filter fun p => !decide (p ∈ zn)) = wf5 at *
    obtain ⟨u10, hu10⟩ : ∃ u10 : PyI.Slot, keepVal (some t10) = u10 := ⟨_, rfl⟩
    have d2' : PyData.int sy = .int 1 := by rw [d2]
    simp (disch := first | omega | simp) [hz, e4, backE, hu10]
    exact ⟨o5, w5, u10, .val (.int z), ho5.le (by decide), hw5.le (by decide), by simp [E, d2]⟩
  rintro _ ⟨o5, w5, s10, s18, ho5, hw5, rfl⟩
  simp (disch := first | omega | simp) [E, exK_bnd, seqK_exK, bnd_bnd]
  refine wp_exK (fComp_p (e0 := [.val (.list (row.map .int)), .val (.int 0), .val (.int s), .val (.list (os.map .int)), .own (o5.map ppD), .own (w5.map ppD), .val (.list (u.map ppD)), s7, s8, s9, s10, s11, .val (.int sy), .val (.int a), .val (.int b), .val (.int x), .val (.int y), .own gv, s18]) ppD (fun p => decide (4 < sy)) ppD u (by simp) (by have := hu.1; omega) fun p hp => ?_) ?_
  · by_cases d1 : 4 < sy <;> simp [wipeE, d1]
  have hu2 := (hu.fil fun p => decide (4 < sy)).app (.one ha1 hb1)
  have e5 : binD .Add (.list ((u.filter fun p => decide (4 < sy)).map ppD)) (.list [.tuple [.int (a : Int), .int (b : Int)]]) = _ := catB [(a, b)] (hu.fil fun p => decide (4 < sy)) (by decide) (by simp)
  generalize (u.filter fun p => decide (4 < sy)) ++ [(a, b)] = u2 at *
  generalize huf : (u.filter fun p => decide (4 < sy)) = uf at *
  obtain ⟨u10, hu10⟩ : ∃ u10 : PyI.Slot, keepVal (some s10) = u10 := ⟨_, rfl⟩
  simp (disch := first | omega | simp) [hz, e5, backE, hu10]
  exact ⟨o5, w5, u2, _, ho5, hw5, hu2.le (by decide), rfl⟩
end LawT
namespace LawT
open PySem PySem.Spec L2 PyI
theorem InT.of {s : Nat} {o w u : List (Nat × Nat)} (hs : s ≤ 12) (ho : BL s 17 o) (hw : BL s 45 w) (hu : BL s 17 u) (h1 : o.Nodup) (h2 : w.Nodup) : InT s o w u := ⟨hs, ho.2, hw.2, hu.2, by
  have := ho.1
  have := hw.1
  rw [List.length_append]; omega, by have := hu.1; omega, h1, h2⟩
theorem InT.of' {s : Nat} {o w u : List (Nat × Nat)} (hs : s ≤ 12) (ho : BL s 45 o) (hw : BL s 17 w) (hu : BL s 17 u) (h1 : o.Nodup) (h2 : w.Nodup) : InT s o w u := ⟨hs, ho.2, hw.2, hu.2, by
  have := ho.1
  have := hw.1
  rw [List.length_append]; omega, by have := hu.1; omega, h1, h2⟩
theorem spk_len (o w : List (Nat × Nat)) (hv : List Nat) : (spk o w hv).length ≤ 4096 := Nat.le_trans (List.length_filter_le _ _) (ssP_len _)
theorem likePP (n : Nat) {xs : List (Nat × Nat)} (h : xs.length ≤ 1000000) : likeOk (n + 2) (.tuple (xs.map ppD)) = true := by
  show (decide ((xs.map ppD).length ≤ 1000000) && (xs.map ppD).all (likeOk (n + 1))) = true
  rw [Bool.and_eq_true, List.all_eq_true]
  refine ⟨decide_eq_true (by rw [List.length_map]; exact h), fun d hd => ?_⟩
  obtain ⟨p, _, rfl⟩ := List.mem_map.mp hd
  simp [likeOk, ppD]
theorem four : ∀ os : List Int, os.length = 4 → (∀ x ∈ os, 0 ≤ x ∧ x < (4 : Nat)) → ∃ a b x y : Nat, os = [(a : Int), (b : Int), (x : Int), (y : Int)] ∧ a < 4 ∧ b < 4 ∧ x < 4 ∧ y < 4
  | [a, b, x, y], _, h => by
    obtain ⟨a1, a2⟩ := h a (by simp)
    obtain ⟨b1, b2⟩ := h b (by simp)
    obtain ⟨x1, x2⟩ := h x (by simp)
    obtain ⟨y1, y2⟩ := h y (by simp)
    obtain ⟨a, rfl⟩ := Int.eq_ofNat_of_zero_le a1
    obtain ⟨b, rfl⟩ := Int.eq_ofNat_of_zero_le b1
    obtain ⟨x, rfl⟩ := Int.eq_ofNat_of_zero_le x1
    obtain ⟨y, rfl⟩ := Int.eq_ofNat_of_zero_le y1
    exact ⟨a, b, x, y, rfl, by omega, by omega, by omega, by omega⟩
theorem law_runs : ∀ ns : List Int, ns.length ≤ 63 → (∀ z ∈ ns, Builtin.Int.intBits z ≤ 1048576) → runFn (prgAt T level) f_law [scr ns] = some (.ret (.bool true)) := by
  intro ns _ _
  have hz := sizeLine_val
  obtain ⟨row, hrow, r_row⟩ := run_row' (prgAt T 11) (prgAt T 10) ns 24 (prg_call' (T := T) (n := 10) (k := 2) (x := "_law_mixed") rfl rfl) (by decide)
  have r_row : runFn (prgAt T 11) f_l_row [scr ns, .int 24] = some (.ret (.list (row.map .int))) := r_row
  have k1 : (prgAt T 12).call ("_law_row" : PySem.Str) = some (2, runFn (prgAt T 11) f_l_row) := prg_call' (T := T) (n := 11) (k := 2) (x := "_law_row") rfl rfl
  have k2 : (prgAt T 12).call ("_law_editions" : PySem.Str) = some (3, runFn (prgAt T 11) f_l_editions) := prg_call' (T := T) (n := 11) (k := 3) (x := "_law_editions") rfl rfl
  have k3 : (prgAt T 12).call ("_law_members" : PySem.Str) = some (2, runFn (prgAt T 11) f_l_members) := prg_call' (T := T) (n := 11) (k := 2) (x := "_law_members") rfl rfl
  have k4 : (prgAt T 12).call ("_law_like" : PySem.Str) = some (2, runFn (prgAt T 11) f_l_like) := prg_call' (T := T) (n := 11) (k := 2) (x := "_law_like") rfl rfl
  have k5 : (prgAt T 12).call ("speaking" : PySem.Str) = some (3, runFn (prgAt T 11) f_speaking) := prg_call' (T := T) (n := 11) (k := 3) (x := "speaking") rfl rfl
  have k6 : (prgAt T 12).call ("_law_speaking" : PySem.Str) = some (3, runFn (prgAt T 11) f_l_speaking) := prg_call' (T := T) (n := 11) (k := 3) (x := "_law_speaking") rfl rfl
  have k7 : (prgAt T 12).call ("_law_once" : PySem.Str) = some (1, runFn (prgAt T 11) f_l_once) := prg_call' (T := T) (n := 11) (k := 1) (x := "_law_once") rfl rfl
  have k8 : (prgAt T 12).call ("_law_right" : PySem.Str) = some (4, runFn (prgAt T 11) f_l_right) := prg_call' (T := T) (n := 11) (k := 4) (x := "_law_right") rfl rfl
  have k9 : (prgAt T 12).call ("_law_order" : PySem.Str) = some (3, runFn (prgAt T 11) f_l_order) := prg_call' (T := T) (n := 11) (k := 3) (x := "_law_order") rfl rfl
  have hrd : ∀ {i : Int}, 0 ≤ i ∧ i < 24 → atI (row.map PyData.int) i = some (.int (gt row i)) := fun h => hrow.rd h
  refine runs_eq (runs_of rfl ?_)
  have c20 := hrow.cell (i := 20) (by decide)
  have c21 := hrow.cell (i := 21) (by decide)
  have c22 := hrow.cell (i := 22) (by decide)
  have hm1 := mod_ii (i := gt row 20) (j := 2) (by decide)
  -- the number of sites
  let S (e : Ev) : Prop := ∃ s : Nat, 1 ≤ s ∧ s ≤ 8 ∧ e = [.val (scr ns), .val (.list (row.map .int)), .val (.int s), .und, .und, .und, .und, .und, .und, .und, .und, .und, .und, .und, .und, .und, .und]
  have mkS : ∀ x : Int, 1 ≤ x → x ≤ 8 → S [.val (scr ns), .val (.list (row.map .int)), .val (.int x), .und, .und, .und, .und, .und, .und, .und, .und, .und, .und, .und, .und, .und, .und] := fun x h1 h2 => by
    obtain ⟨s, rfl⟩ := Int.eq_ofNat_of_zero_le (show 0 ≤ x by omega)
    exact ⟨s, by omega, by omega, rfl⟩
  simp (disch := first | omega | simp) [f_law, env0, k1, r_row, hrd, mod_ii]
  refine wp_seq S ?_ ?_
  · by_cases c : gt row 21 % 4 = 3
    · simp (disch := first | omega | simp) [c, hrd, mod_ii, div_ii]
      exact mkS _ (by omega) (by omega)
    · simp [c]
      exact mkS _ (by omega) (by omega)
  rintro _ ⟨s, hs1, hs2, rfl⟩
  simp (disch := first | omega | simp) [hrd, mod_ii]
  refine wp_seq S ?_ ?_
  · by_cases c : gt row 21 % 16 = 5
    · simp [c]
      exact mkS 8 (by decide) (by decide)
    · simp [c]
      exact mkS _ (by omega) (by omega)
  clear hs1 hs2 s
  rintro _ ⟨s, hs1, hs2, rfl⟩
  simp [hz]
  let P (e : Ev) : Prop := ∃ o w u : List (Nat × Nat), BL s 17 o ∧ BL s 17 w ∧ BL s 17 u ∧ o.Nodup ∧ w.Nodup ∧ e = [.val (scr ns), .val (.list (row.map .int)), .val (.int s), .val (.tuple (o.map ppD)), .val (.tuple (w.map ppD)), .val (.tuple (u.map ppD)), .und, .und, .und, .und, .und, .und, .und, .und, .und, .und, .und]
  refine wp_seq P ?_ ?_
  · by_cases c : 1 < s
    · have c' : (1 : Int) < (s : Int) := by omega
      obtain ⟨_, r2, o, w, u, ho, hw, hu, rfl⟩ := run_l_editions 10 (row := row) (by rw [hrow.1]; decide) (s := s) ⟨by omega, by omega⟩
      have hs12 : s ≤ 12 := by omega
      have fin : P [.val (scr ns), .val (.list (row.map .int)), .val (.int s), .val (.tuple ((ssP o).map ppD)), .val (.tuple ((ssP w).map ppD)), .val (.tuple ((ssP u).map ppD)), .und, .und, .und, .und, .und, .und, .und, .und, .und, .und, .und] := ⟨ssP o, ssP w, ssP u, ho.ss hs12, hw.ss hs12, hu.ss hs12, ssP_nodup _, ssP_nodup _, rfl⟩
      generalize (ssP o).map ppD = ov at *
      generalize (ssP w).map ppD = wv at *
      generalize (ssP u).map ppD = uv at *
      simp [c', c, k2, r2]
      exact fin
    · have c' : ¬ (1 : Int) < (s : Int) := by omega
      simp [c', c]
      exact ⟨[], [], [], .nil, .nil, .nil, .nil, .nil, rfl⟩
  rintro _ ⟨o, w, u, ho, hw, hu, hon, hwn, rfl⟩
  have hs12 : s ≤ 12 := by omega
  have g3 := shl_1k s (by omega)
  obtain ⟨m, hm⟩ : ∃ m : Nat, gt row 22 % ((2 ^ s : Nat) : Int) = (m : Int) := ⟨(gt row 22 % ((2 ^ s : Nat) : Int)).toNat, by
    have := Int.emod_nonneg (gt row 22) (b := ((2 ^ s : Nat) : Int)) (by have := Nat.two_pow_pos s; omega)
    omega⟩
  have g4 : binD .Mod (.int (gt row 22)) (.int ((2 ^ s : Nat) : Int)) = some (.old (.int (m : Int))) := by
    rw [mod_ii (by have := Nat.two_pow_pos s; omega), hm]
  have hI : InT s o w u := .of hs12 ho (hw.le (by decide)) hu hon hwn
  have r3 := run_l_members (prgAt T 11) m (s := s) (by omega)
  have b15 : BL s 34 (o ++ w) := ho.app hw
  have bb := b15.ss hs12
  have hI1 : InT s o (ssP (o ++ w)) u := .of hs12 ho (bb.le (by decide)) hu hon (ssP_nodup _)
  have hI2 : InT s (ssP (o ++ w)) w u := .of' hs12 (bb.le (by decide)) hw hu (ssP_nodup _) hwn
  have r5 := run_speaking (prgAt T 11) (mem m s) hI.b hI.len
  have r6 := run_l_speaking (prgAt T 11) (mem m s) hI.b hI.len hon hwn
  have r5a := run_speaking (prgAt T 11) (mem m s) hI1.b hI1.len
  have r6a := run_l_speaking (prgAt T 11) (mem m s) hI1.b hI1.len hon (ssP_nodup _)
  have r5b := run_speaking (prgAt T 11) (mem m s) hI2.b hI2.len
  have r6b := run_l_speaking (prgAt T 11) (mem m s) hI2.b hI2.len (ssP_nodup _) hwn
  have lk : ∀ hv (o w : List (Nat × Nat)), runFn (prgAt T 11) f_l_like [.tuple ((spk o w hv).map ppD), .tuple ((spk o w hv).map ppD)] = some (.ret (.bool true)) := fun hv o w => run_like (T := T) rfl rfl 10 _ (likePP 8 (by have := spk_len o w hv; omega))
  have l1 := lk (mem m s) o w
  have l2 := lk (mem m s) o (ssP (o ++ w))
  have l3 := lk (mem m s) (ssP (o ++ w)) w
  have r7 := run_l_once (prgAt T 11) (b15.b hs12) (by have := b15.1; omega)
  rw [List.map_append] at r7
  have cat1 : binD .Add (.list (o.map ppD)) (.list (w.map ppD)) = some (.newL (o.map ppD ++ w.map ppD)) := cat_ll (by have := ho.1; have := hw.1; simp; omega)
  have r8 := run_l_right 3 hI
  have m1 : ∀ p ∈ o, p ∈ spk o (ssP (o ++ w)) (mem m s) := fun p hp => by
    have hp2 : p ∈ ssP (o ++ w) := (mem_ssP (b15.b hs12) p).mpr (List.mem_append_left _ hp)
    exact List.mem_filter.mpr ⟨(mem_ssP hI1.b p).mpr (List.mem_append_left _ hp), by unfold sq; simp [hp, hp2]⟩
  have m2 : ∀ p ∈ w, p ∈ spk (ssP (o ++ w)) w (mem m s) := fun p hp => by
    have hp2 : p ∈ ssP (o ++ w) := (mem_ssP (b15.b hs12) p).mpr (List.mem_append_right _ hp)
    exact List.mem_filter.mpr ⟨(mem_ssP hI2.b p).mpr (List.mem_append_right _ hp), by unfold sq; simp [hp, hp2]⟩
  have i1 : ∀ p ∈ o, cmpD .In (ppD p) (.tuple ((spk o (ssP (o ++ w)) (mem m s)).map ppD)) = some (.old (.bool true)) := fun p hp => by
    have h := (in_pp (spk o (ssP (o ++ w)) (mem m s)) p).2.2.1
    rw [h]; simp [m1 p hp]
  have i2 : ∀ p ∈ w, cmpD .In (ppD p) (.tuple ((spk (ssP (o ++ w)) w (mem m s)).map ppD)) = some (.old (.bool true)) := fun p hp => by
    have h := (in_pp (spk (ssP (o ++ w)) w (mem m s)) p).2.2.1
    rw [h]; simp [m2 p hp]
  have hol : o.length ≤ sizeLine := by have := ho.1; omega
  have hwl : w.length ≤ sizeLine := by have := hw.1; omega
  -- the four sites
  let xs : List Int := (List.range 4).map fun k : Nat => gt row 23 / (1 + 4 * (k : Int))
  obtain ⟨_, r9, os, rfl, hol4, hob⟩ := run_l_order (prgAt T 11) xs 0 (by decide) 4 (by decide) (by simp [xs])
  have r9 : runFn (prgAt T 11) f_l_order [.list (xs.map .int), .int 0, .int 4] = some (.ret (.list (os.map .int))) := r9
  have hxs : xs.map PyData.int = (List.range 4).map fun k : Nat => PyData.int (gt row 23 / (1 + 4 * (k : Int))) := by simp only [xs, List.map_map]; rfl
  obtain ⟨a, b, x, y, hos, ha, hb, hx, hy⟩ := four os hol4 hob
  subst hos
  rw [hxs] at r9
  have sub : ∀ {L : Nat} {zs : List (Nat × Nat)}, BL 4 L zs → L ≤ 17 → BL 4 17 (ssP zs) := fun h hL => (h.ss (by decide)).le hL
  have p1 : BL 4 2 [(a, x), (x, b)] := .cons ha hx (.one hx hb)
  have p2 : BL 4 2 [(a, y), (y, b)] := .cons ha hy (.one hy hb)
  have p3 : BL 4 3 [(a, x), (x, b), (y, b)] := .cons ha hx (.cons hx hb (.one hy hb))
  have p4 : BL 4 3 [(a, y), (x, b), (y, b)] := .cons ha hy (.cons hx hb (.one hy hb))
  have pw : BL 4 17 [(a, b)] := (BL.one ha hb).le (by decide)
  have once : ∀ {L : Nat} {zs : List (Nat × Nat)}, BL 4 L zs → L ≤ 17 → runFn (prgAt T 11) f_l_once [.list (zs.map ppD)] = some (.ret (.tuple ((ssP zs).map ppD))) := fun h hL => run_l_once _ (h.b (by decide)) (by have := h.1; omega)
  have o1 := once p1 (by decide)
  have o2 := once p2 (by decide)
  have o3 := once p3 (by decide)
  have o4 := once p4 (by decide)
  have q1 := run_l_right 3 (.of (by decide) (sub p1 (by decide)) ((sub p2 (by decide)).le (by decide)) pw (ssP_nodup _) (ssP_nodup _))
  have q2 := run_l_right 3 (.of (by decide) (sub p3 (by decide)) ((sub p4 (by decide)).le (by decide)) pw (ssP_nodup _) (ssP_nodup _))
  have cat2 : ∀ d e f : PyData, binD .Add (.list [d]) (.list [e, f]) = some (.newL [d, e, f]) := fun d e f => cat_ll (by simp; omega)
  have r23 := hrd (i := 23) (by decide)
  -- names
  generalize (ssP [(a, x), (x, b)]).map ppD = v1 at *
  generalize (ssP [(a, y), (y, b)]).map ppD = v2 at *
  generalize (ssP [(a, x), (x, b), (y, b)]).map ppD = v3 at *
  generalize (ssP [(a, y), (x, b), (y, b)]).map ppD = v4 at *
  generalize (spk o w (mem m s)).map ppD = s1 at *
  generalize (spk o (ssP (o ++ w)) (mem m s)).map ppD = s2 at *
  generalize (spk (ssP (o ++ w)) w (mem m s)).map ppD = s3 at *
  generalize (ssP (o ++ w)).map ppD = bv at *
  generalize (mem m s).map nI = mv at *
  generalize (u.map ppD) = uv at *
  simp only [List.map_cons, List.map_nil, ppD] at o1 o2 o3 o4 q1 q2
  have q1 : runFn (prgAt T 11) f_l_right [.int 4, .tuple v1, .tuple v2, .tuple [.tuple [.int (a : Int), .int (b : Int)]]] = some (.ret (.bool true)) := q1
  have q2 : runFn (prgAt T 11) f_l_right [.int 4, .tuple v3, .tuple v4, .tuple [.tuple [.int (a : Int), .int (b : Int)]]] = some (.ret (.bool true)) := q2
  generalize (2 ^ s : Nat) = N at *
  have st1 : ∀ {L : Nat} {zs : List (Nat × Nat)}, BL s L zs → L ≤ 100 → zs.length ≤ 16777216 := fun h hL => by
    have := h.1; omega
  have hol' := st1 ho (by decide)
  have hwl' := st1 hw (by decide)
  generalize hov : o.map ppD = ov at *
  generalize hwv : w.map ppD = wv at *
  simp (disch := first | omega | simp) [hrd, g3, g4, k3, r3, k4, k5, k6, r5, r6, l1, k7, cat1, r7, r5a, r5b, exK_bnd, seqK_exK, bnd_bnd]
  rw [← hov]
  refine wp_exK (fComp_f (e0 := [.val (scr ns), .val (.list (row.map .int)), .val (.int s), .val (.tuple (o.map ppD)), .val (.tuple wv), .val (.tuple uv), .val (.tuple mv), .val (.tuple bv), .val (.tuple s2), .val (.tuple s3), .und, .und, .und, .und, .und, .und, .und]) ppD (fun _ => .bool true) o (by simp) (by omega) fun p hp => ?_) ?_
  · have := i1 p hp
    simp [wipeE, this]
  have al1 := all_const o
  generalize (o.map fun _ => PyData.bool true) = bo at *
  rw [hov]
  simp (disch := first | omega | simp) [backE, keepVal, al1, exK_bnd, seqK_exK, bnd_bnd]
  rw [← hwv]
  refine wp_exK (fComp_f (e0 := [.val (scr ns), .val (.list (row.map .int)), .val (.int s), .val (.tuple ov), .val (.tuple (w.map ppD)), .val (.tuple uv), .val (.tuple mv), .val (.tuple bv), .val (.tuple s2), .val (.tuple s3), .und, .und, .und, .und, .und, .und, .und]) ppD (fun _ => .bool true) w (by simp) (by omega) fun p hp => ?_) ?_
  · have := i2 p hp
    simp [wipeE, this]
  have al2 := all_const w
  generalize (w.map fun _ => PyData.bool true) = bw at *
  rw [hwv]
  simp (disch := first | omega | simp) [backE, keepVal, al2, k4, k6, r6a, r6b, l2, l3, k8, r8, k9, exK_bnd, seqK_exK, bnd_bnd]
  refine wp_exK (fComp_f (e0 := [.val (scr ns), .val (.list (row.map .int)), .val (.int s), .val (.tuple ov), .val (.tuple wv), .val (.tuple uv), .val (.tuple mv), .val (.tuple bv), .val (.tuple s2), .val (.tuple s3), .und, .und, .und, .und, .und, .und, .und]) (fun k : Nat => PyData.int (k : Int)) (fun k => PyData.int (gt row 23 / (1 + 4 * (k : Int)))) (List.range 4) (by simp (disch := first | omega | simp) [rngI_i]) (by simp; omega) fun k hk => ?_) ?_
  · have hk' := List.mem_range.mp hk
    simp (disch := first | omega | simp) [wipeE, r23, mul_r, div_ii]
  generalize ((List.range 4).map fun k : Nat => PyData.int (gt row 23 / (1 + 4 * (k : Int)))) = xv at *
  simp (disch := first | omega | simp) [backE, keepVal, k9, r9, k7, o1, o2, o3, o4, k8, q1, q2, cat2, hz]
end LawT
namespace LawT
open PySem PySem.Spec PyProof.Rows L2 PyI
def top (i : Nat) : Stmt := PySem.Challenge.pw_roadblind_k74_whole_safe_order.main.body.getD i (.Pass ⟨0, 0, 0, 0⟩)
theorem sc_speaking : FnScope f_speaking.N ["old", "new", "having"] (defScope (top 1)) := ⟨rfl, rfl, rfl, by decide +kernel, rfl, by decide +kernel, by decide +kernel⟩
theorem ck_speaking : chkSs f_speaking.N (defScope (top 1)) f_speaking.body (defBody (top 1)) = true := by decide +kernel
theorem sc_members_of : FnScope f_members_of.N ["mask", "sites"] (defScope (top 2)) := ⟨rfl, rfl, rfl, by decide +kernel, rfl, by decide +kernel, by decide +kernel⟩
theorem ck_members_of : chkSs f_members_of.N (defScope (top 2)) f_members_of.body (defBody (top 2)) = true := by decide +kernel
theorem sc_all_joined : FnScope f_all_joined.N ["sites", "pairs", "wanted"] (defScope (top 3)) := ⟨rfl, rfl, rfl, by decide +kernel, rfl, by decide +kernel, by decide +kernel⟩
theorem ck_all_joined : chkSs f_all_joined.N (defScope (top 3)) f_all_joined.body (defBody (top 3)) = true := by decide +kernel
theorem sc_good_moments : FnScope f_good_moments.N ["sites", "old", "new", "wanted"] (defScope (top 4)) := ⟨rfl, rfl, rfl, by decide +kernel, rfl, by decide +kernel, by decide +kernel⟩
theorem ck_good_moments : chkSs f_good_moments.N (defScope (top 4)) f_good_moments.body (defBody (top 4)) = true := by decide +kernel
theorem sc_moments_to_end : FnScope f_moments_to_end.N ["sites", "good"] (defScope (top 5)) := ⟨rfl, rfl, rfl, by decide +kernel, rfl, by decide +kernel, by decide +kernel⟩
theorem ck_moments_to_end : chkSs f_moments_to_end.N (defScope (top 5)) f_moments_to_end.body (defBody (top 5)) = true := by decide +kernel
theorem sc_safe_order : FnScope f_safe_order.N ["sites", "old", "new", "wanted"] (defScope (top 6)) := ⟨rfl, rfl, rfl, by decide +kernel, rfl, by decide +kernel, by decide +kernel⟩
theorem ck_safe_order : chkSs f_safe_order.N (defScope (top 6)) f_safe_order.body (defBody (top 6)) = true := by decide +kernel
theorem sc_blocked_paper : FnScope f_blocked_paper.N ["sites", "old", "new", "wanted"] (defScope (top 7)) := ⟨rfl, rfl, rfl, by decide +kernel, rfl, by decide +kernel, by decide +kernel⟩
theorem ck_blocked_paper : chkSs f_blocked_paper.N (defScope (top 7)) f_blocked_paper.body (defBody (top 7)) = true := by decide +kernel
theorem sc_l_mixed : FnScope f_l_mixed.N ["script", "k"] (defScope (top 9)) := ⟨rfl, rfl, rfl, by decide +kernel, rfl, by decide +kernel, by decide +kernel⟩
theorem ck_l_mixed : chkSs f_l_mixed.N (defScope (top 9)) f_l_mixed.body (defBody (top 9)) = true := by decide +kernel
theorem sc_l_row : FnScope f_l_row.N ["script", "many"] (defScope (top 10)) := ⟨rfl, rfl, rfl, by decide +kernel, rfl, by decide +kernel, by decide +kernel⟩
theorem ck_l_row : chkSs f_l_row.N (defScope (top 10)) f_l_row.body (defBody (top 10)) = true := by decide +kernel
theorem sc_l_is_int : FnScope f_l_is_int.N ["value"] (defScope (top 11)) := ⟨rfl, rfl, rfl, by decide +kernel, rfl, by decide +kernel, by decide +kernel⟩
theorem ck_l_is_int : chkSs f_l_is_int.N (defScope (top 11)) f_l_is_int.body (defBody (top 11)) = true := by decide +kernel
theorem sc_l_like : FnScope f_l_like.N ["value", "due"] (defScope (top 12)) := ⟨rfl, rfl, rfl, by decide +kernel, rfl, by decide +kernel, by decide +kernel⟩
theorem ck_l_like : chkSs f_l_like.N (defScope (top 12)) f_l_like.body (defBody (top 12)) = true := by decide +kernel
theorem sc_l_speaking : FnScope f_l_speaking.N ["old", "new", "having"] (defScope (top 13)) := ⟨rfl, rfl, rfl, by decide +kernel, rfl, by decide +kernel, by decide +kernel⟩
theorem ck_l_speaking : chkSs f_l_speaking.N (defScope (top 13)) f_l_speaking.body (defBody (top 13)) = true := by decide +kernel
theorem sc_l_order : FnScope f_l_order.N ["row", "at", "sites"] (defScope (top 14)) := ⟨rfl, rfl, rfl, by decide +kernel, rfl, by decide +kernel, by decide +kernel⟩
theorem ck_l_order : chkSs f_l_order.N (defScope (top 14)) f_l_order.body (defBody (top 14)) = true := by decide +kernel
theorem sc_l_once : FnScope f_l_once.N ["pairs"] (defScope (top 15)) := ⟨rfl, rfl, rfl, by decide +kernel, rfl, by decide +kernel, by decide +kernel⟩
theorem ck_l_once : chkSs f_l_once.N (defScope (top 15)) f_l_once.body (defBody (top 15)) = true := by decide +kernel
theorem sc_l_editions : FnScope f_l_editions.N ["row", "at", "sites"] (defScope (top 16)) := ⟨rfl, rfl, rfl, by decide +kernel, rfl, by decide +kernel, by decide +kernel⟩
theorem ck_l_editions : chkSs f_l_editions.N (defScope (top 16)) f_l_editions.body (defBody (top 16)) = true := by decide +kernel
theorem sc_l_all_joined : FnScope f_l_all_joined.N ["sites", "pairs", "wanted"] (defScope (top 17)) := ⟨rfl, rfl, rfl, by decide +kernel, rfl, by decide +kernel, by decide +kernel⟩
theorem ck_l_all_joined : chkSs f_l_all_joined.N (defScope (top 17)) f_l_all_joined.body (defBody (top 17)) = true := by decide +kernel
theorem sc_l_members : FnScope f_l_members.N ["mask", "sites"] (defScope (top 18)) := ⟨rfl, rfl, rfl, by decide +kernel, rfl, by decide +kernel, by decide +kernel⟩
theorem ck_l_members : chkSs f_l_members.N (defScope (top 18)) f_l_members.body (defBody (top 18)) = true := by decide +kernel
theorem sc_l_due : FnScope f_l_due.N ["sites", "good"] (defScope (top 19)) := ⟨rfl, rfl, rfl, by decide +kernel, rfl, by decide +kernel, by decide +kernel⟩
theorem ck_l_due : chkSs f_l_due.N (defScope (top 19)) f_l_due.body (defBody (top 19)) = true := by decide +kernel
theorem sc_l_right : FnScope f_l_right.N ["sites", "old", "new", "wanted"] (defScope (top 20)) := ⟨rfl, rfl, rfl, by decide +kernel, rfl, by decide +kernel, by decide +kernel⟩
theorem ck_l_right : chkSs f_l_right.N (defScope (top 20)) f_l_right.body (defBody (top 20)) = true := by decide +kernel
theorem sc_law : FnScope f_law.N ["script"] (defScope (top 21)) := ⟨rfl, rfl, rfl, by decide +kernel, rfl, by decide +kernel, by decide +kernel⟩
theorem ck_law : chkSs f_law.N (defScope (top 21)) f_law.body (defBody (top 21)) = true := by decide +kernel
theorem all_mk {P : Program} {w : World} {K : PySem.W.Frag} {h : Heap} {mg : PySem.Str → Option Value} {fa : Addr} (X : K.In h) (G : h.Ns mainGlobals mg) (hfa : mg "law" = some (.ref fa))
  {od0 an0 : Option Addr} {sl0 : Array (Option Value)} {f0 : Addr} {oc0 kV0 dc0 pm0 cd0 ct0 : Value}
  {od1 an1 : Option Addr} {sl1 : Array (Option Value)} {f1 : Addr} {oc1 kV1 dc1 pm1 cd1 ct1 : Value}
  {od2 an2 : Option Addr} {sl2 : Array (Option Value)} {f2 : Addr} {oc2 kV2 dc2 pm2 cd2 ct2 : Value}
  {od3 an3 : Option Addr} {sl3 : Array (Option Value)} {f3 : Addr} {oc3 kV3 dc3 pm3 cd3 ct3 : Value}
  {od4 an4 : Option Addr} {sl4 : Array (Option Value)} {f4 : Addr} {oc4 kV4 dc4 pm4 cd4 ct4 : Value}
  {od5 an5 : Option Addr} {sl5 : Array (Option Value)} {f5 : Addr} {oc5 kV5 dc5 pm5 cd5 ct5 : Value}
  {od6 an6 : Option Addr} {sl6 : Array (Option Value)} {f6 : Addr} {oc6 kV6 dc6 pm6 cd6 ct6 : Value}
  {od7 an7 : Option Addr} {sl7 : Array (Option Value)} {f7 : Addr} {oc7 kV7 dc7 pm7 cd7 ct7 : Value}
  {od8 an8 : Option Addr} {sl8 : Array (Option Value)} {f8 : Addr} {oc8 kV8 dc8 pm8 cd8 ct8 : Value}
  {od9 an9 : Option Addr} {sl9 : Array (Option Value)} {f9 : Addr} {oc9 kV9 dc9 pm9 cd9 ct9 : Value}
  {od10 an10 : Option Addr} {sl10 : Array (Option Value)} {f10 : Addr} {oc10 kV10 dc10 pm10 cd10 ct10 : Value}
  {od11 an11 : Option Addr} {sl11 : Array (Option Value)} {f11 : Addr} {oc11 kV11 dc11 pm11 cd11 ct11 : Value}
  {od12 an12 : Option Addr} {sl12 : Array (Option Value)} {f12 : Addr} {oc12 kV12 dc12 pm12 cd12 ct12 : Value}
  {od13 an13 : Option Addr} {sl13 : Array (Option Value)} {f13 : Addr} {oc13 kV13 dc13 pm13 cd13 ct13 : Value}
  {od14 an14 : Option Addr} {sl14 : Array (Option Value)} {f14 : Addr} {oc14 kV14 dc14 pm14 cd14 ct14 : Value}
  {od15 an15 : Option Addr} {sl15 : Array (Option Value)} {f15 : Addr} {oc15 kV15 dc15 pm15 cd15 ct15 : Value}
  {od16 an16 : Option Addr} {sl16 : Array (Option Value)} {f16 : Addr} {oc16 kV16 dc16 pm16 cd16 ct16 : Value}
  {od17 an17 : Option Addr} {sl17 : Array (Option Value)} {f17 : Addr} {oc17 kV17 dc17 pm17 cd17 ct17 : Value}
  {od18 an18 : Option Addr} {sl18 : Array (Option Value)} {f18 : Addr} {oc18 kV18 dc18 pm18 cd18 ct18 : Value}
  {od19 an19 : Option Addr} {sl19 : Array (Option Value)} {f19 : Addr} {oc19 kV19 dc19 pm19 cd19 ct19 : Value}
  (a0 : PySem.W.nsIn K mainGlobals "speaking" = some (some (.ref f0))) (l0 : K.lookup f0 = some ⟨oc0, od0, .func (PySem.W.fnOf "speaking" "speaking" (defArgs (top 1)) (defBody (top 1)) (defScope (top 1)) .none kV0 dc0 pm0 an0 cd0 ct0), sl0⟩) (c0 : PySem.W.codeIn K cd0 "speaking" = true) (k0 : PySem.W.keepIn K (.ref f0) = true)
  (a1 : PySem.W.nsIn K mainGlobals "members_of" = some (some (.ref f1))) (l1 : K.lookup f1 = some ⟨oc1, od1, .func (PySem.W.fnOf "members_of" "members_of" (defArgs (top 2)) (defBody (top 2)) (defScope (top 2)) .none kV1 dc1 pm1 an1 cd1 ct1), sl1⟩) (c1 : PySem.W.codeIn K cd1 "members_of" = true) (k1 : PySem.W.keepIn K (.ref f1) = true)
  (a2 : PySem.W.nsIn K mainGlobals "all_joined" = some (some (.ref f2))) (l2 : K.lookup f2 = some ⟨oc2, od2, .func (PySem.W.fnOf "all_joined" "all_joined" (defArgs (top 3)) (defBody (top 3)) (defScope (top 3)) .none kV2 dc2 pm2 an2 cd2 ct2), sl2⟩) (c2 : PySem.W.codeIn K cd2 "all_joined" = true) (k2 : PySem.W.keepIn K (.ref f2) = true)
  (a3 : PySem.W.nsIn K mainGlobals "good_moments" = some (some (.ref f3))) (l3 : K.lookup f3 = some ⟨oc3, od3, .func (PySem.W.fnOf "good_moments" "good_moments" (defArgs (top 4)) (defBody (top 4)) (defScope (top 4)) .none kV3 dc3 pm3 an3 cd3 ct3), sl3⟩) (c3 : PySem.W.codeIn K cd3 "good_moments" = true) (k3 : PySem.W.keepIn K (.ref f3) = true)
  (a4 : PySem.W.nsIn K mainGlobals "moments_to_end" = some (some (.ref f4))) (l4 : K.lookup f4 = some ⟨oc4, od4, .func (PySem.W.fnOf "moments_to_end" "moments_to_end" (defArgs (top 5)) (defBody (top 5)) (defScope (top 5)) .none kV4 dc4 pm4 an4 cd4 ct4), sl4⟩) (c4 : PySem.W.codeIn K cd4 "moments_to_end" = true) (k4 : PySem.W.keepIn K (.ref f4) = true)
  (a5 : PySem.W.nsIn K mainGlobals "safe_order" = some (some (.ref f5))) (l5 : K.lookup f5 = some ⟨oc5, od5, .func (PySem.W.fnOf "safe_order" "safe_order" (defArgs (top 6)) (defBody (top 6)) (defScope (top 6)) .none kV5 dc5 pm5 an5 cd5 ct5), sl5⟩) (c5 : PySem.W.codeIn K cd5 "safe_order" = true) (k5 : PySem.W.keepIn K (.ref f5) = true)
  (a6 : PySem.W.nsIn K mainGlobals "blocked_paper" = some (some (.ref f6))) (l6 : K.lookup f6 = some ⟨oc6, od6, .func (PySem.W.fnOf "blocked_paper" "blocked_paper" (defArgs (top 7)) (defBody (top 7)) (defScope (top 7)) .none kV6 dc6 pm6 an6 cd6 ct6), sl6⟩) (c6 : PySem.W.codeIn K cd6 "blocked_paper" = true) (k6 : PySem.W.keepIn K (.ref f6) = true)
  (a7 : PySem.W.nsIn K mainGlobals "_law_mixed" = some (some (.ref f7))) (l7 : K.lookup f7 = some ⟨oc7, od7, .func (PySem.W.fnOf "_law_mixed" "_law_mixed" (defArgs (top 9)) (defBody (top 9)) (defScope (top 9)) .none kV7 dc7 pm7 an7 cd7 ct7), sl7⟩) (c7 : PySem.W.codeIn K cd7 "_law_mixed" = true) (k7 : PySem.W.keepIn K (.ref f7) = true)
  (a8 : PySem.W.nsIn K mainGlobals "_law_row" = some (some (.ref f8))) (l8 : K.lookup f8 = some ⟨oc8, od8, .func (PySem.W.fnOf "_law_row" "_law_row" (defArgs (top 10)) (defBody (top 10)) (defScope (top 10)) .none kV8 dc8 pm8 an8 cd8 ct8), sl8⟩) (c8 : PySem.W.codeIn K cd8 "_law_row" = true) (k8 : PySem.W.keepIn K (.ref f8) = true)
  (a9 : PySem.W.nsIn K mainGlobals "_law_is_int" = some (some (.ref f9))) (l9 : K.lookup f9 = some ⟨oc9, od9, .func (PySem.W.fnOf "_law_is_int" "_law_is_int" (defArgs (top 11)) (defBody (top 11)) (defScope (top 11)) .none kV9 dc9 pm9 an9 cd9 ct9), sl9⟩) (c9 : PySem.W.codeIn K cd9 "_law_is_int" = true) (k9 : PySem.W.keepIn K (.ref f9) = true)
  (a10 : PySem.W.nsIn K mainGlobals "_law_like" = some (some (.ref f10))) (l10 : K.lookup f10 = some ⟨oc10, od10, .func (PySem.W.fnOf "_law_like" "_law_like" (defArgs (top 12)) (defBody (top 12)) (defScope (top 12)) .none kV10 dc10 pm10 an10 cd10 ct10), sl10⟩) (c10 : PySem.W.codeIn K cd10 "_law_like" = true) (k10 : PySem.W.keepIn K (.ref f10) = true)
  (a11 : PySem.W.nsIn K mainGlobals "_law_speaking" = some (some (.ref f11))) (l11 : K.lookup f11 = some ⟨oc11, od11, .func (PySem.W.fnOf "_law_speaking" "_law_speaking" (defArgs (top 13)) (defBody (top 13)) (defScope (top 13)) .none kV11 dc11 pm11 an11 cd11 ct11), sl11⟩) (c11 : PySem.W.codeIn K cd11 "_law_speaking" = true) (k11 : PySem.W.keepIn K (.ref f11) = true)
  (a12 : PySem.W.nsIn K mainGlobals "_law_order" = some (some (.ref f12))) (l12 : K.lookup f12 = some ⟨oc12, od12, .func (PySem.W.fnOf "_law_order" "_law_order" (defArgs (top 14)) (defBody (top 14)) (defScope (top 14)) .none kV12 dc12 pm12 an12 cd12 ct12), sl12⟩) (c12 : PySem.W.codeIn K cd12 "_law_order" = true) (k12 : PySem.W.keepIn K (.ref f12) = true)
  (a13 : PySem.W.nsIn K mainGlobals "_law_once" = some (some (.ref f13))) (l13 : K.lookup f13 = some ⟨oc13, od13, .func (PySem.W.fnOf "_law_once" "_law_once" (defArgs (top 15)) (defBody (top 15)) (defScope (top 15)) .none kV13 dc13 pm13 an13 cd13 ct13), sl13⟩) (c13 : PySem.W.codeIn K cd13 "_law_once" = true) (k13 : PySem.W.keepIn K (.ref f13) = true)
  (a14 : PySem.W.nsIn K mainGlobals "_law_editions" = some (some (.ref f14))) (l14 : K.lookup f14 = some ⟨oc14, od14, .func (PySem.W.fnOf "_law_editions" "_law_editions" (defArgs (top 16)) (defBody (top 16)) (defScope (top 16)) .none kV14 dc14 pm14 an14 cd14 ct14), sl14⟩) (c14 : PySem.W.codeIn K cd14 "_law_editions" = true) (k14 : PySem.W.keepIn K (.ref f14) = true)
  (a15 : PySem.W.nsIn K mainGlobals "_law_all_joined" = some (some (.ref f15))) (l15 : K.lookup f15 = some ⟨oc15, od15, .func (PySem.W.fnOf "_law_all_joined" "_law_all_joined" (defArgs (top 17)) (defBody (top 17)) (defScope (top 17)) .none kV15 dc15 pm15 an15 cd15 ct15), sl15⟩) (c15 : PySem.W.codeIn K cd15 "_law_all_joined" = true) (k15 : PySem.W.keepIn K (.ref f15) = true)
  (a16 : PySem.W.nsIn K mainGlobals "_law_members" = some (some (.ref f16))) (l16 : K.lookup f16 = some ⟨oc16, od16, .func (PySem.W.fnOf "_law_members" "_law_members" (defArgs (top 18)) (defBody (top 18)) (defScope (top 18)) .none kV16 dc16 pm16 an16 cd16 ct16), sl16⟩) (c16 : PySem.W.codeIn K cd16 "_law_members" = true) (k16 : PySem.W.keepIn K (.ref f16) = true)
  (a17 : PySem.W.nsIn K mainGlobals "_law_due" = some (some (.ref f17))) (l17 : K.lookup f17 = some ⟨oc17, od17, .func (PySem.W.fnOf "_law_due" "_law_due" (defArgs (top 19)) (defBody (top 19)) (defScope (top 19)) .none kV17 dc17 pm17 an17 cd17 ct17), sl17⟩) (c17 : PySem.W.codeIn K cd17 "_law_due" = true) (k17 : PySem.W.keepIn K (.ref f17) = true)
  (a18 : PySem.W.nsIn K mainGlobals "_law_right" = some (some (.ref f18))) (l18 : K.lookup f18 = some ⟨oc18, od18, .func (PySem.W.fnOf "_law_right" "_law_right" (defArgs (top 20)) (defBody (top 20)) (defScope (top 20)) .none kV18 dc18 pm18 an18 cd18 ct18), sl18⟩) (c18 : PySem.W.codeIn K cd18 "_law_right" = true) (k18 : PySem.W.keepIn K (.ref f18) = true)
  (a19 : PySem.W.nsIn K mainGlobals "law" = some (some (.ref f19))) (l19 : K.lookup f19 = some ⟨oc19, od19, .func (PySem.W.fnOf "law" "law" (defArgs (top 21)) (defBody (top 21)) (defScope (top 21)) .none kV19 dc19 pm19 an19 cd19 ct19), sl19⟩) (c19 : PySem.W.codeIn K cd19 "law" = true) (k19 : PySem.W.keepIn K (.ref f19) = true)
  (z0 : PySem.W.nsIn K mainGlobals "len" = some none)
  (z1 : PySem.W.nsIn K mainGlobals "int" = some none)
  (z2 : PySem.W.nsIn K mainGlobals "abs" = some none)
  (z3 : PySem.W.nsIn K mainGlobals "max" = some none)
  (z4 : PySem.W.nsIn K mainGlobals "min" = some none)
  (z5 : PySem.W.nsIn K mainGlobals "sum" = some none)
  (z6 : PySem.W.nsIn K mainGlobals "any" = some none)
  (z7 : PySem.W.nsIn K mainGlobals "all" = some none)
  (z8 : PySem.W.nsIn K mainGlobals "list" = some none)
  (z9 : PySem.W.nsIn K mainGlobals "tuple" = some none)
  (z10 : PySem.W.nsIn K mainGlobals "divmod" = some none)
  (z11 : PySem.W.nsIn K mainGlobals "str" = some none)
  (z12 : PySem.W.nsIn K mainGlobals "sorted" = some none)
  (z13 : PySem.W.nsIn K mainGlobals "isinstance" = some none)
  (z14 : PySem.W.nsIn K mainGlobals "range" = some none)
  (z15 : PySem.W.nsIn K mainGlobals "enumerate" = some none)
  (z16 : PySem.W.nsIn K mainGlobals "zip" = some none)
  (z17 : PySem.W.nsIn K mainGlobals "reversed" = some none)
  (z18 : PySem.W.nsIn K mainGlobals "bool" = some none)
  (z19 : PySem.W.nsIn K mainGlobals "set" = some none)
  (hlaw : ∀ ns : List Int, ns.length ≤ 63 → (∀ z ∈ ns, Builtin.Int.intBits z ≤ 1048576) → runFn (prgAt T level) f_law [scr ns] = some (.ret (.bool true))) :
  ∃ fd : FuncData, (∀ (s : Shared) (v : Value), BindsTo s fd ⟨[v], []⟩ [("script", v)]) ∧ ∀ base : Heap, K.In base → base.Ns mainGlobals mg → FnOk P w K mg base (L2.CX P w) (level + 1) fa fd ["script"] (spL K) := by
  have e := hfa.symm.trans (PySem.W.mg_of X G a19)
  cases e
  have F0 := fun_mk (st := (top 1)) l0 c0 k0
  have b0 := F0.binds (ps := ["old", "new", "having"]) fun _ _ _ _ _ _ us hl => match us, hl with | [_, _, _], _ => rfl
  have L0 : FnLink K mg "speaking" f_speaking := ⟨⟨(top 1), _, _, ["old", "new", "having"], F0, sc_speaking, rfl, ck_speaking, PySem.W.mg_of X G a0, b0⟩⟩
  have F1 := fun_mk (st := (top 2)) l1 c1 k1
  have b1 := F1.binds (ps := ["mask", "sites"]) fun _ _ _ _ _ _ us hl => match us, hl with | [_, _], _ => rfl
  have L1 : FnLink K mg "members_of" f_members_of := ⟨⟨(top 2), _, _, ["mask", "sites"], F1, sc_members_of, rfl, ck_members_of, PySem.W.mg_of X G a1, b1⟩⟩
  have F2 := fun_mk (st := (top 3)) l2 c2 k2
  have b2 := F2.binds (ps := ["sites", "pairs", "wanted"]) fun _ _ _ _ _ _ us hl => match us, hl with | [_, _, _], _ => rfl
  have L2 : FnLink K mg "all_joined" f_all_joined := ⟨⟨(top 3), _, _, ["sites", "pairs", "wanted"], F2, sc_all_joined, rfl, ck_all_joined, PySem.W.mg_of X G a2, b2⟩⟩
  have F3 := fun_mk (st := (top 4)) l3 c3 k3
  have b3 := F3.binds (ps := ["sites", "old", "new", "wanted"]) fun _ _ _ _ _ _ us hl => match us, hl with | [_, _, _, _], _ => rfl
  have L3 : FnLink K mg "good_moments" f_good_moments := ⟨⟨(top 4), _, _, ["sites", "old", "new", "wanted"], F3, sc_good_moments, rfl, ck_good_moments, PySem.W.mg_of X G a3, b3⟩⟩
  have F4 := fun_mk (st := (top 5)) l4 c4 k4
  have b4 := F4.binds (ps := ["sites", "good"]) fun _ _ _ _ _ _ us hl => match us, hl with | [_, _], _ => rfl
  have L4 : FnLink K mg "moments_to_end" f_moments_to_end := ⟨⟨(top 5), _, _, ["sites", "good"], F4, sc_moments_to_end, rfl, ck_moments_to_end, PySem.W.mg_of X G a4, b4⟩⟩
  have F5 := fun_mk (st := (top 6)) l5 c5 k5
  have b5 := F5.binds (ps := ["sites", "old", "new", "wanted"]) fun _ _ _ _ _ _ us hl => match us, hl with | [_, _, _, _], _ => rfl
  have L5 : FnLink K mg "safe_order" f_safe_order := ⟨⟨(top 6), _, _, ["sites", "old", "new", "wanted"], F5, sc_safe_order, rfl, ck_safe_order, PySem.W.mg_of X G a5, b5⟩⟩
  have F6 := fun_mk (st := (top 7)) l6 c6 k6
  have b6 := F6.binds (ps := ["sites", "old", "new", "wanted"]) fun _ _ _ _ _ _ us hl => match us, hl with | [_, _, _, _], _ => rfl
  have L6 : FnLink K mg "blocked_paper" f_blocked_paper := ⟨⟨(top 7), _, _, ["sites", "old", "new", "wanted"], F6, sc_blocked_paper, rfl, ck_blocked_paper, PySem.W.mg_of X G a6, b6⟩⟩
  have F7 := fun_mk (st := (top 9)) l7 c7 k7
  have b7 := F7.binds (ps := ["script", "k"]) fun _ _ _ _ _ _ us hl => match us, hl with | [_, _], _ => rfl
  have L7 : FnLink K mg "_law_mixed" f_l_mixed := ⟨⟨(top 9), _, _, ["script", "k"], F7, sc_l_mixed, rfl, ck_l_mixed, PySem.W.mg_of X G a7, b7⟩⟩
  have F8 := fun_mk (st := (top 10)) l8 c8 k8
  have b8 := F8.binds (ps := ["script", "many"]) fun _ _ _ _ _ _ us hl => match us, hl with | [_, _], _ => rfl
  have L8 : FnLink K mg "_law_row" f_l_row := ⟨⟨(top 10), _, _, ["script", "many"], F8, sc_l_row, rfl, ck_l_row, PySem.W.mg_of X G a8, b8⟩⟩
  have F9 := fun_mk (st := (top 11)) l9 c9 k9
  have b9 := F9.binds (ps := ["value"]) fun _ _ _ _ _ _ us hl => match us, hl with | [_], _ => rfl
  have L9 : FnLink K mg "_law_is_int" f_l_is_int := ⟨⟨(top 11), _, _, ["value"], F9, sc_l_is_int, rfl, ck_l_is_int, PySem.W.mg_of X G a9, b9⟩⟩
  have F10 := fun_mk (st := (top 12)) l10 c10 k10
  have b10 := F10.binds (ps := ["value", "due"]) fun _ _ _ _ _ _ us hl => match us, hl with | [_, _], _ => rfl
  have L10 : FnLink K mg "_law_like" f_l_like := ⟨⟨(top 12), _, _, ["value", "due"], F10, sc_l_like, rfl, ck_l_like, PySem.W.mg_of X G a10, b10⟩⟩
  have F11 := fun_mk (st := (top 13)) l11 c11 k11
  have b11 := F11.binds (ps := ["old", "new", "having"]) fun _ _ _ _ _ _ us hl => match us, hl with | [_, _, _], _ => rfl
  have L11 : FnLink K mg "_law_speaking" f_l_speaking := ⟨⟨(top 13), _, _, ["old", "new", "having"], F11, sc_l_speaking, rfl, ck_l_speaking, PySem.W.mg_of X G a11, b11⟩⟩
  have F12 := fun_mk (st := (top 14)) l12 c12 k12
  have b12 := F12.binds (ps := ["row", "at", "sites"]) fun _ _ _ _ _ _ us hl => match us, hl with | [_, _, _], _ => rfl
  have L12 : FnLink K mg "_law_order" f_l_order := ⟨⟨(top 14), _, _, ["row", "at", "sites"], F12, sc_l_order, rfl, ck_l_order, PySem.W.mg_of X G a12, b12⟩⟩
  have F13 := fun_mk (st := (top 15)) l13 c13 k13
  have b13 := F13.binds (ps := ["pairs"]) fun _ _ _ _ _ _ us hl => match us, hl with | [_], _ => rfl
  have L13 : FnLink K mg "_law_once" f_l_once := ⟨⟨(top 15), _, _, ["pairs"], F13, sc_l_once, rfl, ck_l_once, PySem.W.mg_of X G a13, b13⟩⟩
  have F14 := fun_mk (st := (top 16)) l14 c14 k14
  have b14 := F14.binds (ps := ["row", "at", "sites"]) fun _ _ _ _ _ _ us hl => match us, hl with | [_, _, _], _ => rfl
  have L14 : FnLink K mg "_law_editions" f_l_editions := ⟨⟨(top 16), _, _, ["row", "at", "sites"], F14, sc_l_editions, rfl, ck_l_editions, PySem.W.mg_of X G a14, b14⟩⟩
  have F15 := fun_mk (st := (top 17)) l15 c15 k15
  have b15 := F15.binds (ps := ["sites", "pairs", "wanted"]) fun _ _ _ _ _ _ us hl => match us, hl with | [_, _, _], _ => rfl
  have L15 : FnLink K mg "_law_all_joined" f_l_all_joined := ⟨⟨(top 17), _, _, ["sites", "pairs", "wanted"], F15, sc_l_all_joined, rfl, ck_l_all_joined, PySem.W.mg_of X G a15, b15⟩⟩
  have F16 := fun_mk (st := (top 18)) l16 c16 k16
  have b16 := F16.binds (ps := ["mask", "sites"]) fun _ _ _ _ _ _ us hl => match us, hl with | [_, _], _ => rfl
  have L16 : FnLink K mg "_law_members" f_l_members := ⟨⟨(top 18), _, _, ["mask", "sites"], F16, sc_l_members, rfl, ck_l_members, PySem.W.mg_of X G a16, b16⟩⟩
  have F17 := fun_mk (st := (top 19)) l17 c17 k17
  have b17 := F17.binds (ps := ["sites", "good"]) fun _ _ _ _ _ _ us hl => match us, hl with | [_, _], _ => rfl
  have L17 : FnLink K mg "_law_due" f_l_due := ⟨⟨(top 19), _, _, ["sites", "good"], F17, sc_l_due, rfl, ck_l_due, PySem.W.mg_of X G a17, b17⟩⟩
  have F18 := fun_mk (st := (top 20)) l18 c18 k18
  have b18 := F18.binds (ps := ["sites", "old", "new", "wanted"]) fun _ _ _ _ _ _ us hl => match us, hl with | [_, _, _, _], _ => rfl
  have L18 : FnLink K mg "_law_right" f_l_right := ⟨⟨(top 20), _, _, ["sites", "old", "new", "wanted"], F18, sc_l_right, rfl, ck_l_right, PySem.W.mg_of X G a18, b18⟩⟩
  have F19 := fun_mk (st := (top 21)) l19 c19 k19
  have b19 := F19.binds (ps := ["script"]) fun _ _ _ _ _ _ us hl => match us, hl with | [_], _ => rfl
  have L19 : FnLink K mg "law" f_law := ⟨⟨(top 21), _, _, ["script"], F19, sc_law, rfl, ck_law, PySem.W.mg_of X G a19, b19⟩⟩
  have L : TxtLink w K mg T := by
    refine ⟨fun x f hx => ?_, fun x d hx => ?_, fun x hx => ?_, fun c hc => ?_, fun t ht => ?_, fun x kvs hx => ?_⟩
    · have hx : List.lookup x [(("speaking" : PySem.Str), f_speaking), (("members_of" : PySem.Str), f_members_of), (("all_joined" : PySem.Str), f_all_joined), (("good_moments" : PySem.Str), f_good_moments), (("moments_to_end" : PySem.Str), f_moments_to_end), (("safe_order" : PySem.Str), f_safe_order), (("blocked_paper" : PySem.Str), f_blocked_paper), (("_law_mixed" : PySem.Str), f_l_mixed), (("_law_row" : PySem.Str), f_l_row), (("_law_is_int" : PySem.Str), f_l_is_int), (("_law_like" : PySem.Str), f_l_like), (("_law_speaking" : PySem.Str), f_l_speaking), (("_law_order" : PySem.Str), f_l_order), (("_law_once" : PySem.Str), f_l_once), (("_law_editions" : PySem.Str), f_l_editions), (("_law_all_joined" : PySem.Str), f_l_all_joined), (("_law_members" : PySem.Str), f_l_members), (("_law_due" : PySem.Str), f_l_due), (("_law_right" : PySem.Str), f_l_right), (("law" : PySem.Str), f_law)] = some f := hx
      rcases lookup_cases hx with ⟨rfl, rfl⟩ | hx
      · exact L0
      rcases lookup_cases hx with ⟨rfl, rfl⟩ | hx
      · exact L1
      rcases lookup_cases hx with ⟨rfl, rfl⟩ | hx
      · exact L2
      rcases lookup_cases hx with ⟨rfl, rfl⟩ | hx
      · exact L3
      rcases lookup_cases hx with ⟨rfl, rfl⟩ | hx
      · exact L4
      rcases lookup_cases hx with ⟨rfl, rfl⟩ | hx
      · exact L5
      rcases lookup_cases hx with ⟨rfl, rfl⟩ | hx
      · exact L6
      rcases lookup_cases hx with ⟨rfl, rfl⟩ | hx
      · exact L7
      rcases lookup_cases hx with ⟨rfl, rfl⟩ | hx
      · exact L8
      rcases lookup_cases hx with ⟨rfl, rfl⟩ | hx
      · exact L9
      rcases lookup_cases hx with ⟨rfl, rfl⟩ | hx
      · exact L10
      rcases lookup_cases hx with ⟨rfl, rfl⟩ | hx
      · exact L11
      rcases lookup_cases hx with ⟨rfl, rfl⟩ | hx
      · exact L12
      rcases lookup_cases hx with ⟨rfl, rfl⟩ | hx
      · exact L13
      rcases lookup_cases hx with ⟨rfl, rfl⟩ | hx
      · exact L14
      rcases lookup_cases hx with ⟨rfl, rfl⟩ | hx
      · exact L15
      rcases lookup_cases hx with ⟨rfl, rfl⟩ | hx
      · exact L16
      rcases lookup_cases hx with ⟨rfl, rfl⟩ | hx
      · exact L17
      rcases lookup_cases hx with ⟨rfl, rfl⟩ | hx
      · exact L18
      rcases lookup_cases hx with ⟨rfl, rfl⟩ | hx
      · exact L19
      cases hx
    · cases hx
    · simp only [bltNamesAll, List.mem_cons, List.not_mem_nil, or_false] at hx
      rcases hx with rfl | rfl | rfl | rfl | rfl | rfl | rfl | rfl | rfl | rfl | rfl | rfl | rfl | rfl | rfl | rfl | rfl | rfl | rfl | rfl
      · exact PySem.W.mg_none_of X G z0
      · exact PySem.W.mg_none_of X G z1
      · exact PySem.W.mg_none_of X G z2
      · exact PySem.W.mg_none_of X G z3
      · exact PySem.W.mg_none_of X G z4
      · exact PySem.W.mg_none_of X G z5
      · exact PySem.W.mg_none_of X G z6
      · exact PySem.W.mg_none_of X G z7
      · exact PySem.W.mg_none_of X G z8
      · exact PySem.W.mg_none_of X G z9
      · exact PySem.W.mg_none_of X G z10
      · exact PySem.W.mg_none_of X G z11
      · exact PySem.W.mg_none_of X G z12
      · exact PySem.W.mg_none_of X G z13
      · exact PySem.W.mg_none_of X G z14
      · exact PySem.W.mg_none_of X G z15
      · exact PySem.W.mg_none_of X G z16
      · exact PySem.W.mg_none_of X G z17
      · exact PySem.W.mg_none_of X G z18
      · exact PySem.W.mg_none_of X G z19
    · cases hc
    · cases ht
    · cases hx
  exact ⟨_, fun s v => .of_eq rfl, fun base _ _ => law_fn L F19 sc_law rfl rfl ck_law hlaw⟩
end LawT
open PySem PySem.W PyProof.Rows
set_option maxHeartbeats 0 in
theorem PySem.Challenge.cw_roadblind_k74_whole_safe_order_holds : PySem.Challenge.rw_roadblind_k74_whole_safe_order.Holds := by
  w_on; o_law; k_head; (case hw => w_witness2)
  k_fill
  refine L2.walk_ofB (l := PySem.Challenge.rw_roadblind_k74_whole_safe_order) (n := 63) (k := LawT.level + 1) (x := "script") (CX := fun w => L2.CX PySem.Challenge.rw_roadblind_k74_whole_safe_order.prog w) (sp := fun w => PyI.spL _) rfl (by decide) rfl ⟨rfl, by decide, by decide⟩ (fun w h Y => PySem.W.kIn_of Y) ?F (fun w H a ns hl hb _ hS => ⟨a, ns, rfl, hS, hl, hb, fun _ => rfl⟩) (fun w H s e s' h => PyI.cx_none h)
  case F =>
    intro w mg fa h KX G hmg
    refine' LawT.all_mk KX G hmg ?a0 ?l0 ?c0 ?k0 ?a1 ?l1 ?c1 ?k1 ?a2 ?l2 ?c2 ?k2 ?a3 ?l3 ?c3 ?k3 ?a4 ?l4 ?c4 ?k4 ?a5 ?l5 ?c5 ?k5 ?a6 ?l6 ?c6 ?k6 ?a7 ?l7 ?c7 ?k7 ?a8 ?l8 ?c8 ?k8 ?a9 ?l9 ?c9 ?k9 ?a10 ?l10 ?c10 ?k10 ?a11 ?l11 ?c11 ?k11 ?a12 ?l12 ?c12 ?k12 ?a13 ?l13 ?c13 ?k13 ?a14 ?l14 ?c14 ?k14 ?a15 ?l15 ?c15 ?k15 ?a16 ?l16 ?c16 ?k16 ?a17 ?l17 ?c17 ?k17 ?a18 ?l18 ?c18 ?k18 ?a19 ?l19 ?c19 ?k19 ?z0 ?z1 ?z2 ?z3 ?z4 ?z5 ?z6 ?z7 ?z8 ?z9 ?z10 ?z11 ?z12 ?z13 ?z14 ?z15 ?z16 ?z17 ?z18 ?z19 LawT.law_runs
    (case a0 => k_is); (case l0 => k_is); (case c0 => k_is); (case k0 => k_is); (case a1 => k_is); (case l1 => k_is); (case c1 => k_is); (case k1 => k_is); (case a2 => k_is); (case l2 => k_is); (case c2 => k_is); (case k2 => k_is); (case a3 => k_is); (case l3 => k_is); (case c3 => k_is); (case k3 => k_is); (case a4 => k_is); (case l4 => k_is); (case c4 => k_is); (case k4 => k_is); (case a5 => k_is); (case l5 => k_is); (case c5 => k_is); (case k5 => k_is); (case a6 => k_is); (case l6 => k_is); (case c6 => k_is); (case k6 => k_is); (case a7 => k_is); (case l7 => k_is); (case c7 => k_is); (case k7 => k_is); (case a8 => k_is); (case l8 => k_is); (case c8 => k_is); (case k8 => k_is); (case a9 => k_is); (case l9 => k_is); (case c9 => k_is); (case k9 => k_is); (case a10 => k_is); (case l10 => k_is); (case c10 => k_is); (case k10 => k_is); (case a11 => k_is); (case l11 => k_is); (case c11 => k_is); (case k11 => k_is); (case a12 => k_is); (case l12 => k_is); (case c12 => k_is); (case k12 => k_is); (case a13 => k_is); (case l13 => k_is); (case c13 => k_is); (case k13 => k_is); (case a14 => k_is); (case l14 => k_is); (case c14 => k_is); (case k14 => k_is); (case a15 => k_is); (case l15 => k_is); (case c15 => k_is); (case k15 => k_is); (case a16 => k_is); (case l16 => k_is); (case c16 => k_is); (case k16 => k_is); (case a17 => k_is); (case l17 => k_is); (case c17 => k_is); (case k17 => k_is); (case a18 => k_is); (case l18 => k_is); (case c18 => k_is); (case k18 => k_is); (case a19 => k_is); (case l19 => k_is); (case c19 => k_is); (case k19 => k_is); (case z0 => k_is); (case z1 => k_is); (case z2 => k_is); (case z3 => k_is); (case z4 => k_is); (case z5 => k_is); (case z6 => k_is); (case z7 => k_is); (case z8 => k_is); (case z9 => k_is); (case z10 => k_is); (case z11 => k_is); (case z12 => k_is); (case z13 => k_is); (case z14 => k_is); (case z15 => k_is); (case z16 => k_is); (case z17 => k_is); (case z18 => k_is); (case z19 => k_is)
