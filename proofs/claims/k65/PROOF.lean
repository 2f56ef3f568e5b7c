import PyProof.Rows.All
import Wide.All
import OpenK.AllK
import Wide.FinOn
import PySem.Challenge.RW_hullroads_k65_whole_orders_and_their_par
import HandS.ForMost
import HandS.ForExc
import HandS.Evl
import HandS.Deep
import HandS.SetFor
import HandS.DictTup
import KE.KDictKeyed
import KE.KDictWalk
import KE.KDictCopyH
import KE.KDictList
import HandS.Gcd
import HandS.Wide
import HandS.TupSets
import HandS.Zip
import HandS.Style
import HandS.CallLocal
import HandS.TryMany
import HandS.EndBits
import HandS.IsInst
import KE.SortData
import KE.DataEq
import HandS.TupAny
import HandS.TupMul
import HandS.Conv
import KE.GoesEnum
import HandS.NamedTupSort
set_option Elab.async false
set_option linter.all false
set_option autoImplicit false
set_option maxRecDepth 100000
set_option maxHeartbeats 4000000
namespace L2
open PySem PySem.Spec PyProof.Rows PySem.W PySem.Calls
/-! ### a dict whose keys are tuples of any depth: key, the key's own tuple, value -/
abbrev Ent := NestedKey × Addr × V
abbrev EntR (p : Ent) (q : NestedKey × Addr × Value) : Prop := p.1 = q.1 ∧ p.2.1 = q.2.1 ∧ RelV p.2.2 q.2.2
def DicT0 (P : Program) (w : World) (h : Heap) (a : Addr) (L : List Ent) : Prop :=
  L.length ≤ sizeLine ∧ (a == sysModules) = false ∧ ∃ xs : List (NestedKey × Addr × Value), Paired EntR L xs ∧ ∃ o es ep, h.get? a = some o ∧ o.ExactDict ∧ o.data = .dict es ep ∧ es.toList = xs.map (entryOfKey (nestedKind P w)) ∧ (xs.map (·.1)).Nodup
def DicO (P : Program) (w : World) (a : Addr) (L : List Ent) : HO := .ext fun h => DicT0 P w h a L
theorem dicO_ok {P : Program} {w : World} {H : Hp} {h : Heap} {a : Addr} {L : List Ent} (R : DicT0 P w h a L) : ObjOk P w H h a (DicO P w a L) := by
  have ⟨_, _, xs, _, o, es, ep, ho, q⟩ := R
  refine ⟨R, ⟨o, ho⟩, fun h1 h2 p k => ?_⟩
  obtain ⟨z1, z2, ys, r, o', es', ep', ho', q'⟩ := p
  exact ⟨z1, z2, ys, r, o', es', ep', k o' ho', q'⟩
theorem dicO_rd {P : Program} {w : World} {H : Hp} {h : Heap} {a : Addr} {L : List Ent} (ok : HOk P w H h) (e : H a = some (DicO P w a L)) : DicT0 P w h a L := (show ObjOk P w H h a (DicO P w a L) from ok a _ e).1
mutual
/-- v is, by the tracked tuples, the key k -/
inductive NkV (H : Hp) : V → NestedKey → Prop
  | non : NkV H .non .none
  | bl (b : Bool) : NkV H (.bl b) (.num (if b = true then 1 else 0))
  | int (i : Int) : NkV H (.int i) (.num i)
  | str (x : Str) : NkV H (.str x) (.text x)
  | tup {a : Addr} {xs : List V} {ks : List NestedKey} : H a = some (.tup xs) → NkVs H xs ks → NkV H (.ref a) (.tup ks)
inductive NkVs (H : Hp) : List V → List NestedKey → Prop
  | nil : NkVs H [] []
  | cons {v : V} {vs : List V} {k : NestedKey} {ks : List NestedKey} : NkV H v k → NkVs H vs ks → NkVs H (v :: vs) (k :: ks)
end
section
variable {P : Program} {w : World} {H : Hp} {h : Heap}
mutual
theorem NkV.is (ok : HOk P w H h) : ∀ {v : V} {k : NestedKey} {u : Value}, NkV H v k → RelV v u → NestedIs h k u
  | _, _, u, .non, r => by
    obtain rfl : u = .none := r
    exact .none
  | _, _, u, .bl b, r => by
    obtain rfl : u = .bool b := r
    exact .bool rfl
  | _, _, u, .int i, r => by
    obtain ⟨t, rfl⟩ := (show ∃ t, u = Value.int i t from r)
    exact .int i t
  | _, _, u, .str x, r => by
    obtain ⟨t, rfl⟩ := (show ∃ t, u = Value.str x t from r)
    exact .text x t
  | _, _, u, @NkV.tup _ a xs ks e s, r => by
    obtain rfl : u = .ref a := r
    obtain ⟨_, its, rv, ⟨o, ho, hc, n, hd⟩⟩ := (show ObjOk P w H h a (.tup xs) from ok a _ e)
    exact .tup ho hc hd (by simpa using NkVs.is ok s rv)
theorem NkVs.is (ok : HOk P w H h) : ∀ {vs : List V} {ks : List NestedKey} {us : List Value}, NkVs H vs ks → Vals vs us → NestedAll h ks us
  | _, _, _, .nil, r => by cases r; exact .nil
  | _, _, _, .cons a b, r => by
    cases r with
    | cons r1 r2 => exact .cons (NkV.is ok a r1) (NkVs.is ok b r2)
end
/-- the entry's tuple is its key, and no deeper than the model asks -/
def EntK (H : Hp) (q : Ent) : Prop := NkV H (.ref q.2.1) q.1 ∧ q.1.depth ≤ 8
theorem EntK.is (ok : HOk P w H h) {q : Ent} (e : EntK H q) : (nestedKind P w).is h q.1 q.2.1 := ⟨e.1.is ok rfl, e.2⟩
end
/-- the entry of the key k -/
def entAt (L : List Ent) (k : NestedKey) : Option V := (L.find? fun q => decide (q.1 = k)).map (·.2.2)
def entPut (L : List Ent) (k : NestedKey) (b : Addr) (v : V) : List Ent := if (entAt L k).isSome then L.map (fun q => if q.1 = k then (q.1, q.2.1, v) else q) else L ++ [(k, b, v)]
theorem ents_find : ∀ {L : List Ent} {xs : List (NestedKey × Addr × Value)} {k : NestedKey}, Paired EntR L xs → (entAt L k = none ∧ atKey xs k = none) ∨ ∃ v b u, entAt L k = some v ∧ atKey xs k = some (b, u) ∧ RelV v u
  | _, _, _, .nil => .inl ⟨rfl, rfl⟩
  | _, _, k, @Paired.cons _ _ _ q x L xs r t => by
    by_cases e : q.1 = k
    · refine .inr ⟨q.2.2, x.2.1, x.2.2, ?_, ?_, r.2.2⟩
      · unfold entAt
        rw [List.find?_cons, decide_eq_true e]
        rfl
      · unfold atKey
        rw [List.find?_cons, decide_eq_true (r.1.symm.trans e)]
        rfl
    · rcases ents_find (k := k) t with ⟨a, b⟩ | ⟨v, b, u, h1, h2, h3⟩
      · refine .inl ⟨?_, ?_⟩
        · unfold entAt at a ⊢
          rw [List.find?_cons, decide_eq_false e]
          exact a
        · unfold atKey at b ⊢
          rw [List.find?_cons, decide_eq_false (by rw [← r.1]; exact e)]
          exact b
      · refine .inr ⟨v, b, u, ?_, ?_, h3⟩
        · unfold entAt at h1 ⊢
          rw [List.find?_cons, decide_eq_false e]
          exact h1
        · unfold atKey at h2 ⊢
          rw [List.find?_cons, decide_eq_false (by rw [← r.1]; exact e)]
          exact h2
theorem ents_snoc {L M : List Ent} {xs ys : List (NestedKey × Addr × Value)} (h : Paired EntR L xs) (t : Paired EntR M ys) : Paired EntR (L ++ M) (xs ++ ys) := by
  induction h with
  | nil => exact t
  | cons r _ ih => exact .cons r ih
theorem ents_map {k : NestedKey} {v : V} {u : Value} (rv : RelV v u) {L : List Ent} {xs : List (NestedKey × Addr × Value)} (h : Paired EntR L xs) : Paired EntR (L.map (fun q => if q.1 = k then (q.1, q.2.1, v) else q)) (xs.map (putAt k u)) := by
  induction h with
  | nil => exact .nil
  | @cons q x L xs r _ ih =>
    refine .cons ?_ ih
    unfold putAt
    show EntR (if q.1 = k then (q.1, q.2.1, v) else q) _
    by_cases e : q.1 = k
    · rw [if_pos e, if_pos (r.1.symm.trans e)]
      exact ⟨r.1, r.2.1, rv⟩
    · rw [if_neg e, if_neg (by rw [← r.1]; exact e)]
      exact r
theorem ents_put {L : List Ent} {xs : List (NestedKey × Addr × Value)} {k : NestedKey} {b : Addr} {v : V} {u : Value} (rv : RelV v u) (h : Paired EntR L xs) : Paired EntR (entPut L k b v) (storedH xs k b u) := by
  unfold entPut storedH
  rcases ents_find (k := k) h with ⟨h1, h2⟩ | ⟨_, _, _, h1, h2, _⟩
  · rw [h1, h2]
    exact ents_snoc h (.cons ⟨rfl, rfl, rv⟩ .nil)
  · rw [h1, h2]
    exact ents_map rv h
theorem ents_len {L : List Ent} {xs : List (NestedKey × Addr × Value)} (h : Paired EntR L xs) : L.length = xs.length := by
  induction h with
  | nil => rfl
  | cons _ _ ih => rw [List.length_cons, List.length_cons, ih]
theorem ents_all {H : Hp} {P : Program} {w : World} {h : Heap} (ok : HOk P w H h) {L : List Ent} {xs : List (NestedKey × Addr × Value)} (p : Paired EntR L xs) (hk : ∀ q ∈ L, EntK H q) : ∀ x ∈ xs, (nestedKind P w).is h x.1 x.2.1 := by
  induction p with
  | nil => exact fun x hx => by cases hx
  | @cons q x L xs r _ ih =>
    intro y hy
    rcases List.mem_cons.mp hy with e | e
    · rw [e, ← r.1, ← r.2.1]
      exact (hk q List.mem_cons_self).is ok
    · exact ih (fun q hq => hk q (List.mem_cons_of_mem _ hq)) y e
section
variable {X : Cx} {pins : List (Addr × Obj)} {σ : St} {H : Hp} {s : Shared} {a b : Addr} {A : Around} {E : Value → Shared → Prop} {L : List Ent} {k : NestedKey}
theorem dicOf (I : Inv X pins σ H s) (e : H a = some (DicO X.prog X.w a L)) (hk : ∀ q ∈ L, EntK H q) : L.length ≤ sizeLine ∧ (a == sysModules) = false ∧ ∃ xs, Paired EntR L xs ∧ s.heap.DictOfH (nestedKind X.prog X.w) a xs := by
  obtain ⟨z, hd, xs, p, o, es, ep, h1, h2, h3, h4, h5⟩ := dicO_rd I.hok e
  exact ⟨z, hd, xs, p, o, es, ep, h1, h2, h3, h4, ents_all I.hok p hk, h5⟩
theorem dicSet {v : V} {u : Value} {Q : Unit → Shared → Prop} (hu : A.in1.units + 8 < cLine) (I : Inv X pins σ H s) (e : H a = some (DicO X.prog X.w a L)) (hk : ∀ q ∈ L, EntK H q)
    (hb : EntK H (k, b, .non)) (rv : RelV v u) (hl : L.length < sizeLine) (h : ∀ s', Inv X pins σ (upd H a (DicO X.prog X.w a (entPut L k b v))) s' → Q () s') :
    wpAny (model X.prog X.w) A (setItem (.ref a) (.ref b) u) Q E s := by
  obtain ⟨z, hd, xs, p, dd⟩ := dicOf I e hk
  have hz : xs.length ≤ sizeLine := by rw [← ents_len p]; exact z
  refine wpAny_setItem_heap (hsz := hz) (k := k) hu (EntK.is (q := (k, b, .non)) I.hok hb) dd fun h' dd' hs => h _ ?_
  obtain ⟨q, es, ep, hq, h2, h3, h4, _, h5⟩ := dd'
  refine d_write I (by rw [e]; exact True.intro) hs ⟨q, hq⟩ (dicO_ok ⟨?_, hd, _, ents_put rv p, q, es, ep, hq, h2, h3, h4, h5⟩)
  unfold entPut
  split
  · rw [List.length_map]
    exact z
  · rw [List.length_append]
    exact hl
theorem dicGet {v : V} {Q : Value → Shared → Prop} (hu : A.in1.units + 8 < cLine) (I : Inv X pins σ H s) (e : H a = some (DicO X.prog X.w a L)) (hk : ∀ q ∈ L, EntK H q)
    (hb : EntK H (k, b, .non)) (hv : entAt L k = some v) (h : ∀ u s', RelV v u → Inv X pins σ H s' → Q u s') : wpAny (model X.prog X.w) A (getItem (.ref a) (.ref b)) Q E s := by
  obtain ⟨z, hd, xs, p, dd⟩ := dicOf I e hk
  rcases ents_find (k := k) p with ⟨h1, _⟩ | ⟨v', c, u, h1, h2, h3⟩
  · rw [hv] at h1
    cases h1
  · rw [hv] at h1
    cases h1
    exact wpAny_getItem_heap hu (EntK.is (q := (k, b, .non)) I.hok hb) dd h2 (h u _ h3 (I.tok _))
end
section
variable {X : Cx} {pos : Pos}
def tDicNew (X : Cx) : TE := fun _ H Q => ∀ p, H p = none → Q (.ref p) (upd H p (DicO X.prog X.w p []))
theorem pe_dicNew : PE X (.Dict [] [] pos) (tDicNew X) := ⟨fun pins s σ H Q I h =>
  wpAny_Dict_empty ⟨.ref s.heap.objs.size, _, I.laid (a := s.heap.objs.size) (o := DicO X.prog X.w s.heap.objs.size []) (t' := s.toks) (fun _ _ q => Heap.get?_push_of_some _ q) (Nat.le_refl _)
    (dicO_ok ⟨Nat.zero_le _, beq_eq_false_iff_ne.mpr (Ne.symm (Nat.ne_of_lt I.big)), [], .nil, _, #[], 0, Heap.get?_push_size _ rfl, ⟨rfl, rfl, rfl⟩, rfl, rfl, List.nodup_nil⟩), rfl, h _ (I.hok.fresh (Nat.le_refl _))⟩⟩
end
end L2
/-! The layer of this work: a Python text read as plain functions over data (Dv), and the rules that tie the two. -/
namespace Py
open PySem PySem.Spec PyProof.Rows L2
abbrev Ext := Evl.Ex
abbrev Sg := L2.St

/-! ### data, results, slots -/
inductive Dv where
  | non | bl (b : Bool) | int (i : Int) | str (s : Str) | tup (l : List Dv) | lst (l : List Dv) | fn (k : Nat) | ins (c : Nat) (l : List Dv)
inductive R (α : Type) where
  | stuck | err (x : Nat) | ok (a : α)
namespace R
def bind {α β : Type} : R α → (α → R β) → R β
  | .stuck, _ => .stuck
  | .err x, _ => .err x
  | .ok a, f => f a
def map {α β : Type} (f : α → β) : R α → R β
  | .stuck => .stuck
  | .err x => .err x
  | .ok a => .ok (f a)
/-- where no error may leave -/
def calm {α : Type} : R α → R α
  | .err _ => .stuck
  | r => r
end R
/-- what a slot holds: a datum, or a list that nobody else holds -/
inductive Sl where
  | val (d : Dv) | own (l : List Dv) | st (a b : Int) | dic (l : List (Dv × Dv)) | obj (c : Nat) (l : List Dv)
def Sl.d : Sl → Dv
  | .val d => d
  | .own l => .lst l
  | _ => .non
/-- nobody else's -/
def Sl.pv : Sl → Bool
  | .val _ => false
  | _ => true
abbrev En := List (Option Sl)
inductive Out where
  | stuck | err (x : Nat) | nx (e : En) | rt (s : Sl) (e : En) | bk (e : En) | ct (e : En)

structure Sc where
  P : Program
  w : World
  K : PySem.W.Frag
  mg : Str → Option Value
  base : Heap
  ft : Nat → Option Addr
  ct : Nat → Option Addr
  kt : Nat → Option Addr
  fl : Nat → List Str
structure Sx extends Sc where
  sta : Option Addr

mutual
inductive Rp (S : Sx) (F : Hp) : V → Dv → Prop
  | non : Rp S F .non .non
  | bl (b : Bool) : Rp S F (.bl b) (.bl b)
  | int (i : Int) : Rp S F (.int i) (.int i)
  | str (x : Str) : Rp S F (.str x) (.str x)
  | lst {a : Addr} {xs : List V} {ds : List Dv} : F a = some (.lst xs) → RpL S F xs ds → Rp S F (.ref a) (.lst ds)
  | tup {a : Addr} {xs : List V} {ds : List Dv} : F a = some (.tup xs) → RpL S F xs ds → Rp S F (.ref a) (.tup ds)
  | fn {k : Nat} {a : Addr} : S.ft k = some a → Rp S F (.ref a) (.fn k)
  | ins {c : Nat} {a C dx : Addr} {vs : List V} {ds : List Dv} : S.kt c = some C → F a = some (.ins C dx ((S.fl c).zip vs)) → vs.length = (S.fl c).length → RpL S F vs ds → Rp S F (.ref a) (.ins c ds)
inductive RpL (S : Sx) (F : Hp) : List V → List Dv → Prop
  | nil : RpL S F [] []
  | cons {v : V} {vs : List V} {d : Dv} {ds : List Dv} : Rp S F v d → RpL S F vs ds → RpL S F (v :: vs) (d :: ds)
end
section
variable {S : Sx} {F F' H H' H1 F1 H2 F2 : Hp}
mutual
theorem Rp.mono (e : Ext F F') : ∀ {v : V} {d : Dv}, Rp S F v d → Rp S F' v d
  | _, _, .non => .non
  | _, _, .bl b => .bl b
  | _, _, .int i => .int i
  | _, _, .str x => .str x
  | _, _, .lst h a => .lst (e _ _ h) (RpL.mono e a)
  | _, _, .tup h a => .tup (e _ _ h) (RpL.mono e a)
  | _, _, .fn h => .fn h
  | _, _, .ins h1 h2 h3 h4 => .ins h1 (e _ _ h2) h3 (RpL.mono e h4)
theorem RpL.mono (e : Ext F F') : ∀ {vs : List V} {ds : List Dv}, RpL S F vs ds → RpL S F' vs ds
  | _, _, .nil => .nil
  | _, _, .cons h t => .cons (Rp.mono e h) (RpL.mono e t)
end
theorem RpL.length : ∀ {vs : List V} {ds : List Dv}, RpL S F vs ds → vs.length = ds.length
  | _, _, .nil => rfl
  | _, _, .cons _ t => congrArg Nat.succ (RpL.length t)
theorem RpL.get : ∀ {vs : List V} {ds : List Dv} {i : Nat} {d : Dv}, RpL S F vs ds → ds[i]? = some d → ∃ v, vs[i]? = some v ∧ Rp S F v d
  | _, _, _, _, .nil, h => by simp at h
  | _, _, 0, _, .cons h _, e => by
    simp at e
    subst e
    exact ⟨_, rfl, h⟩
  | _, _, i + 1, d, .cons _ t, e => by
    obtain ⟨v, h1, h2⟩ := RpL.get (i := i) (d := d) t (by simpa using e)
    exact ⟨v, by simpa using h1, h2⟩
theorem RpL.getV : ∀ {vs : List V} {ds : List Dv} {i : Nat} {v : V}, RpL S F vs ds → vs[i]? = some v → ∃ d, ds[i]? = some d ∧ Rp S F v d
  | _, _, _, _, .nil, h => by simp at h
  | _, _, 0, _, .cons h _, e => by
    simp at e
    subst e
    exact ⟨_, rfl, h⟩
  | _, _, i + 1, v, .cons _ t, e => by
    obtain ⟨d, h1, h2⟩ := RpL.getV (i := i) (v := v) t (by simpa using e)
    exact ⟨d, by simpa using h1, h2⟩
theorem RpL.app : ∀ {vs us : List V} {ds es : List Dv}, RpL S F vs ds → RpL S F us es → RpL S F (vs ++ us) (ds ++ es)
  | _, _, _, _, .nil, s => s
  | _, _, _, _, .cons h t, s => .cons h (RpL.app t s)
theorem RpL.take : ∀ {vs : List V} {ds : List Dv} (n : Nat), RpL S F vs ds → RpL S F (vs.take n) (ds.take n)
  | _, _, 0, _ => .nil
  | _, _, _ + 1, .nil => .nil
  | _, _, n + 1, .cons h t => .cons h (RpL.take n t)
theorem RpL.drop : ∀ {vs : List V} {ds : List Dv} (n : Nat), RpL S F vs ds → RpL S F (vs.drop n) (ds.drop n)
  | _, _, 0, h => h
  | _, _, _ + 1, .nil => .nil
  | _, _, n + 1, .cons _ t => RpL.drop n t
theorem RpL.set {x : V} {d : Dv} (r : Rp S F x d) : ∀ {vs : List V} {ds : List Dv} (n : Nat), RpL S F vs ds → RpL S F (vs.set n x) (ds.set n d)
  | _, _, _, .nil => .nil
  | _, _, 0, .cons _ t => .cons r t
  | _, _, n + 1, .cons h t => .cons h (RpL.set r n t)
theorem RpL.erase : ∀ {vs : List V} {ds : List Dv} (n : Nat), RpL S F vs ds → RpL S F (vs.eraseIdx n) (ds.eraseIdx n)
  | _, _, _, .nil => .nil
  | _, _, 0, .cons _ t => t
  | _, _, n + 1, .cons h t => .cons h (RpL.erase n t)
theorem RpL.rev {vs : List V} {ds : List Dv} (h : RpL S F vs ds) : RpL S F vs.reverse ds.reverse := by
  induction ds generalizing vs with
  | nil => cases h; exact .nil
  | cons d ds ih =>
    cases h with
    | cons a t =>
      rw [List.reverse_cons, List.reverse_cons]
      exact (ih t).app (.cons a .nil)

/-! ### two heaps: F, what may be shared and never changes again; H, all that is tracked -/
structure Grow (F H F' H' : Hp) : Prop where
  ff : Ext F F'
  hh : Ext H H'
  fh : Ext F' H'
  fz : ∀ a, H a ≠ none → F' a = F a
theorem Grow.refl (h : Ext F H) : Grow F H F H := ⟨Evl.Ex.refl F, Evl.Ex.refl H, h, fun _ _ => rfl⟩
theorem Ext.there (e : Ext H H') {a : Addr} (h : H a ≠ none) : H' a ≠ none := by
  cases q : H a with
  | none => exact absurd q h
  | some o => rw [e a o q]; intro z; cases z
theorem Grow.trans (a : Grow F H F1 H1) (b : Grow F1 H1 F2 H2) : Grow F H F2 H2 :=
  ⟨a.ff.trans b.ff, a.hh.trans b.hh, b.fh, fun x hx => (b.fz x (Ext.there a.hh hx)).trans (a.fz x hx)⟩
/-- a new object, shared at once -/
theorem Grow.new {p : Addr} {o : HO} (h : Ext F H) (hp : H p = none) : Grow F H (upd F p o) (upd H p o) := by
  have fp : F p = none := Evl.fresh_back h hp
  refine ⟨Evl.Ex.new fp, Evl.Ex.new hp, fun a u e => ?_, fun a ha => ?_⟩
  · by_cases q : a = p
    · subst q
      rw [upd_same] at e ⊢
      exact e
    · rw [upd_ne q] at e ⊢
      exact h a u e
  · exact upd_ne fun q => ha (by rw [q]; exact hp)
/-- a new object, not shared -/
theorem Grow.mine {p : Addr} {o : HO} (h : Ext F H) (hp : H p = none) : Grow F H F (upd H p o) :=
  ⟨Evl.Ex.refl F, Evl.Ex.new hp, h.trans (Evl.Ex.new hp), fun _ _ => rfl⟩
/-- a private object is shared from here on (it was made since H0) -/
theorem Grow.share {p : Addr} {o : HO} {F0 H0 : Hp} (g : Grow F0 H0 F H) (h0 : H0 p = none) (fp : F p = none) (hp : H p = some o) : Grow F0 H0 (upd F p o) H := by
  refine ⟨g.ff.trans (Evl.Ex.new fp), g.hh, fun a u e => ?_, fun a ha => ?_⟩
  · by_cases q : a = p
    · subst q
      rw [upd_same] at e
      rw [hp]
      exact e
    · rw [upd_ne q] at e
      exact g.fh a u e
  · rw [upd_ne fun q => ha (by rw [q]; exact h0)]
    exact g.fz a ha

/-! ### what a result is like -/
/-- shared, or a private list looked at -/
inductive RpB (S : Sx) (F H : Hp) : V → Dv → Prop
  | sh {v : V} {d : Dv} : Rp S F v d → RpB S F H v d
  | pv {p : Addr} {vs : List V} {ds : List Dv} : F p = none → H p = some (.lst vs) → RpL S F vs ds → RpB S F H (.ref p) (.lst ds)
theorem RpB.grow {v : V} {d : Dv} (r : RpB S F H v d) (g : Grow F H F' H') : RpB S F' H' v d := by
  cases r with
  | sh h => exact .sh (h.mono g.ff)
  | @pv p vs ds a b c => exact .pv ((g.fz p (by rw [b]; intro z; cases z)).trans a) (g.hh p _ b) (c.mono g.ff)
def gD (S : Sx) : Hp → Hp → Hp → V → Dv → Prop := fun _ F' _ v d => Rp S F' v d
def gB (S : Sx) : Hp → Hp → Hp → V → Dv → Prop := fun _ F' H' v d => RpB S F' H' v d
/-- a list made since H -/
def gL (S : Sx) : Hp → Hp → Hp → V → List Dv → Prop := fun H F' H' v ds => ∃ p vs, v = .ref p ∧ H p = none ∧ F' p = none ∧ H' p = some (.lst vs) ∧ RpL S F' vs ds
def gS (S : Sx) : Hp → Hp → Hp → V → Sl → Prop := fun H F' H' v s => match s with
  | .val d => Rp S F' v d
  | .own l => gL S H F' H' v l
  | _ => False
def gLs (S : Sx) : Hp → Hp → Hp → List V → List Dv → Prop := fun _ F' _ vs ds => RpL S F' vs ds
/-- an error of the class with the number x -/
def ExcR (S : Sx) (x : Nat) (c : Value) (d : Option Addr) : Prop := ∃ C, S.ct x = some C ∧ c = .ref C ∧ d = none

/-! ### slots -/
/-- as Grow, but for the list of draws, which may be written -/
structure GrowX (S : Sx) (F H F' H' : Hp) : Prop where
  ff : Ext F F'
  hh : ∀ (a : Addr) (o : HO), S.sta ≠ some a → H a = some o → H' a = some o
  he : ∀ (a : Addr), H a ≠ none → H' a ≠ none
  fh : Ext F' H'
  fz : ∀ a, H a ≠ none → F' a = F a
theorem Grow.x (g : Grow F H F' H') : GrowX S F H F' H' := ⟨g.ff, fun a o _ h => g.hh a o h, fun a h => Ext.there g.hh h, g.fh, g.fz⟩
theorem GrowX.trans (a : GrowX S F H F1 H1) (b : GrowX S F1 H1 F2 H2) : GrowX S F H F2 H2 :=
  ⟨a.ff.trans b.ff, fun x o n h => b.hh x o n (a.hh x o n h), fun x h => b.he x (a.he x h), b.fh, fun x hx => (b.fz x (a.he x hx)).trans (a.fz x hx)⟩
theorem GrowX.grow (a : GrowX S F H F1 H1) (b : Grow F1 H1 F2 H2) : GrowX S F H F2 H2 := a.trans b.x
/-! dicts: the keys' own tuples are shared -/
def hashB : Nat → Dv → Bool
  | _, .non => true
  | _, .bl _ => true
  | _, .int _ => true
  | _, .str _ => true
  | n + 1, .tup l => l.all (hashB n)
  | _, _ => false
mutual
def nkD : Dv → NestedKey
  | .non => .none
  | .bl b => .num (if b = true then 1 else 0)
  | .int i => .num i
  | .str x => .text x
  | .tup l => .tup (nkDs l)
  | _ => .none
def nkDs : List Dv → List NestedKey
  | [] => []
  | d :: ds => nkD d :: nkDs ds
end
inductive EntL (S : Sx) (F : Hp) : List Ent → List (Dv × Dv) → Prop
  | nil : EntL S F [] []
  | cons {a : Addr} {v : V} {k d : Dv} {L : List Ent} {l : List (Dv × Dv)} : hashB 8 k = true → Rp S F (.ref a) k → Rp S F v d → EntL S F L l → EntL S F ((nkD k, a, v) :: L) ((k, d) :: l)
theorem EntL.mono {S : Sx} {F F' : Hp} (e : Ext F F') {L : List Ent} {l : List (Dv × Dv)} (h : EntL S F L l) : EntL S F' L l := by
  induction h with
  | nil => exact .nil
  | cons h1 h2 h3 _ ih => exact .cons h1 (h2.mono e) (h3.mono e) ih
def SlotOk (S : Sx) (H0 F H : Hp) : Option V → Option Sl → Prop
  | _, none => True
  | none, some _ => False
  | some v, some (.val d) => Rp S F v d
  | some v, some (.own l) => gL S H0 F H v l
  | some v, some (.st a b) => ∃ p, v = .ref p ∧ S.sta = some p ∧ H0 p ≠ none ∧ F p = none ∧ H p = some (.lst [.int a, .int b])
  | some v, some (.dic l) => ∃ p L, v = .ref p ∧ H0 p = none ∧ F p = none ∧ H p = some (DicO S.P S.w p L) ∧ EntL S F L l
  | some v, some (.obj c l) => ∃ p C dx vs, v = .ref p ∧ S.sta = some p ∧ S.kt c = some C ∧ H0 p ≠ none ∧ F p = none ∧ H p = some (.ins C dx ((S.fl c).zip vs)) ∧ vs.length ≤ (S.fl c).length ∧ RpL S F vs l
structure EnvOk (S : Sx) (F0 H0 F H : Hp) (σ : Sg) (env : En) : Prop where
  g : GrowX S F0 H0 F H
  len : σ.length = env.length
  slot : ∀ (i : Nat), SlotOk S H0 F H (σ[i]?.getD none) (env[i]?.getD none)
  dis : ∀ (i j : Nat) (l m : Sl) (p : Addr), l.pv = true → m.pv = true → env[i]? = some (some l) → env[j]? = some (some m) → σ[i]? = some (some (.ref p)) → σ[j]? = some (some (.ref p)) → i = j
theorem SlotOk.grow {H0 : Hp} {x : Option V} {y : Option Sl} (h : SlotOk S H0 F H x y) (g : Grow F H F' H') : SlotOk S H0 F' H' x y := by
  cases y with
  | none => cases x <;> trivial
  | some s =>
    cases x with
    | none => exact h
    | some v =>
      cases s with
      | val d => exact Rp.mono g.ff h
      | own l =>
        obtain ⟨p, vs, e, h0, f, hp, r⟩ := h
        exact ⟨p, vs, e, h0, (g.fz p (by rw [hp]; intro z; cases z)).trans f, g.hh p _ hp, r.mono g.ff⟩
      | st a b =>
        obtain ⟨p, e, e2, h0, f, hp⟩ := h
        exact ⟨p, e, e2, h0, (g.fz p (by rw [hp]; intro z; cases z)).trans f, g.hh p _ hp⟩
      | dic l =>
        obtain ⟨p, L, e, h0, f, hp, r⟩ := h
        exact ⟨p, L, e, h0, (g.fz p (by rw [hp]; intro z; cases z)).trans f, g.hh p _ hp, r.mono g.ff⟩
      | obj c l =>
        obtain ⟨p, C, dx, vs, e, e2, e3, h0, f, hp, hl, r⟩ := h
        exact ⟨p, C, dx, vs, e, e2, e3, h0, (g.fz p (by rw [hp]; intro z; cases z)).trans f, g.hh p _ hp, hl, r.mono g.ff⟩
theorem EnvOk.grow {F0 H0 : Hp} {σ : Sg} {env : En} (e : EnvOk S F0 H0 F H σ env) (g : Grow F H F' H') : EnvOk S F0 H0 F' H' σ env :=
  ⟨e.g.grow g, e.len, fun i => (e.slot i).grow g, e.dis⟩
theorem EnvOk.at {F0 H0 : Hp} {σ : Sg} {env : En} (e : EnvOk S F0 H0 F H σ env) {i : Nat} {d : Sl} (h : env[i]? = some (some d)) : ∃ v, σ[i]? = some (some v) ∧ SlotOk S H0 F H (some v) (some d) := by
  have s := e.slot i
  rw [h] at s
  have hi : i < σ.length := by rw [e.len]; exact (List.getElem?_eq_some_iff.mp h).1
  rw [List.getElem?_eq_getElem hi] at s ⊢
  cases q : σ[i] with
  | none => rw [q] at s; exact s.elim
  | some v => rw [q] at s; exact ⟨v, rfl, s⟩
theorem EnvOk.val {F0 H0 : Hp} {σ : Sg} {env : En} (e : EnvOk S F0 H0 F H σ env) {i : Nat} {d : Dv} (h : env[i]? = some (some (.val d))) : ∃ v, σ[i]? = some (some v) ∧ Rp S F v d := e.at h
theorem EnvOk.own {F0 H0 : Hp} {σ : Sg} {env : En} (e : EnvOk S F0 H0 F H σ env) {i : Nat} {l : List Dv} (h : env[i]? = some (some (.own l))) :
    ∃ p vs, σ[i]? = some (some (.ref p)) ∧ H0 p = none ∧ F p = none ∧ H p = some (.lst vs) ∧ RpL S F vs l := by
  obtain ⟨v, q, p, vs, rfl, a, b, c, d⟩ := e.at h
  exact ⟨p, vs, q, a, b, c, d⟩
theorem EnvOk.st {F0 H0 : Hp} {σ : Sg} {env : En} (e : EnvOk S F0 H0 F H σ env) {i : Nat} {a b : Int} (h : env[i]? = some (some (.st a b))) :
    ∃ p, σ[i]? = some (some (.ref p)) ∧ S.sta = some p ∧ H0 p ≠ none ∧ F p = none ∧ H p = some (.lst [.int a, .int b]) := by
  obtain ⟨v, q, p, rfl, a, b, c, d⟩ := e.at h
  exact ⟨p, q, a, b, c, d⟩
theorem En.set_at {α : Type} {l : List α} {i j : Nat} {x y : α} (h : (l.set i x)[j]? = some y) : (i = j ∧ y = x) ∨ (i ≠ j ∧ l[j]? = some y) := by
  by_cases hj : i = j
  · subst hj
    by_cases hi : i < l.length
    · rw [List.getElem?_set_self hi] at h
      exact .inl ⟨rfl, (Option.some.inj h).symm⟩
    · rw [List.getElem?_eq_none (by rw [List.length_set]; omega)] at h
      cases h
  · rw [List.getElem?_set_ne hj] at h
    exact .inr ⟨hj, h⟩
/-- a slot is stored -/
theorem EnvOk.put {F0 H0 : Hp} {σ : Sg} {env : En} (e : EnvOk S F0 H0 F H σ env) (i : Nat) {v : V} {d : Dv} (r : Rp S F v d) : EnvOk S F0 H0 F H (σ.set i (some v)) (env.set i (some (.val d))) := by
  refine ⟨e.g, by rw [List.length_set, List.length_set, e.len], fun j => ?_, fun j k l m p hl hm h1 h2 h3 h4 => ?_⟩
  · by_cases hj : i = j
    · subst hj
      by_cases hi : i < env.length
      · rw [List.getElem?_set_self hi, List.getElem?_set_self (by rw [e.len]; exact hi)]
        exact r
      · rw [List.getElem?_eq_none (l := env.set i _) (by rw [List.length_set]; omega)]
        cases (σ.set i (some v))[i]?.getD none <;> trivial
    · rw [List.getElem?_set_ne hj, List.getElem?_set_ne hj]
      exact e.slot j
  · rcases En.set_at h1 with ⟨_, z⟩ | ⟨n1, h1⟩
    · cases z; cases hl
    · rcases En.set_at h2 with ⟨_, z⟩ | ⟨n2, h2⟩
      · cases z; cases hm
      · rw [List.getElem?_set_ne n1] at h3
        rw [List.getElem?_set_ne n2] at h4
        exact e.dis j k l m p hl hm h1 h2 h3 h4
/-- a private list, new to all slots -/
theorem EnvOk.putOwn {F0 H0 : Hp} {σ : Sg} {env : En} (e : EnvOk S F0 H0 F H σ env) (i : Nat) {p : Addr} {vs : List V} {l : List Dv} (h0 : H0 p = none) (fp : F p = none) (hp : H p = some (.lst vs)) (r : RpL S F vs l)
    (new : ∀ (j : Nat) (m : Sl), m.pv = true → j ≠ i → env[j]? = some (some m) → σ[j]? ≠ some (some (.ref p))) : EnvOk S F0 H0 F H (σ.set i (some (.ref p))) (env.set i (some (.own l))) := by
  refine ⟨e.g, by rw [List.length_set, List.length_set, e.len], fun j => ?_, fun j k l' m q hl hm h1 h2 h3 h4 => ?_⟩
  · by_cases hj : i = j
    · subst hj
      by_cases hi : i < env.length
      · rw [List.getElem?_set_self hi, List.getElem?_set_self (by rw [e.len]; exact hi)]
        exact ⟨p, vs, rfl, h0, fp, hp, r⟩
      · rw [List.getElem?_eq_none (l := env.set i _) (by rw [List.length_set]; omega)]
        cases (σ.set i (some (.ref p)))[i]?.getD none <;> trivial
    · rw [List.getElem?_set_ne hj, List.getElem?_set_ne hj]
      exact e.slot j
  · have li : ∀ {k : Nat} {m : Sl}, (env.set i (some (.own l)))[k]? = some (some m) → i = k → i < σ.length := fun h z => by
      subst z
      have z := (List.getElem?_eq_some_iff.mp h).1
      rw [List.length_set] at z
      rw [e.len]
      exact z
    rcases En.set_at h1 with ⟨n1, _⟩ | ⟨n1, g1⟩
    · rcases En.set_at h2 with ⟨n2, _⟩ | ⟨n2, g2⟩
      · exact n1.symm.trans n2
      · rw [List.getElem?_set_ne n2] at h4
        have hi := li h1 n1
        subst n1
        rw [List.getElem?_set_self hi] at h3
        cases h3
        exact absurd h4 (new k m hm (Ne.symm n2) g2)
    · rw [List.getElem?_set_ne n1] at h3
      rcases En.set_at h2 with ⟨n2, _⟩ | ⟨n2, g2⟩
      · have hi := li h2 n2
        subst n2
        rw [List.getElem?_set_self hi] at h4
        cases h4
        exact absurd h3 (new j l' hl (Ne.symm n1) g1)
      · rw [List.getElem?_set_ne n2] at h4
        exact e.dis j k l' m q hl hm g1 g2 h3 h4
/-- the other slots when what a private slot i holds at p is written -/
theorem EnvOk.others {F0 H0 : Hp} {σ : Sg} {env : En} (e : EnvOk S F0 H0 F H σ env) {i : Nat} {p : Addr} {l : Sl} {o : HO} (pl : l.pv = true) (h : env[i]? = some (some l)) (hσ : σ[i]? = some (some (.ref p))) {j : Nat} (hj : i ≠ j) :
    SlotOk S H0 F (upd H p o) (σ[j]?.getD none) (env[j]?.getD none) := by
  have s := e.slot j
  have hd := e.dis i j l
  generalize hx : σ[j]?.getD none = x at s ⊢
  generalize hy : env[j]?.getD none = y at s ⊢
  cases y with
  | none => cases x <;> trivial
  | some sl =>
    cases x with
    | none => exact s
    | some v =>
      have hej : env[j]? = some (some sl) := by
        cases z : env[j]? with
        | none => rw [z] at hy; cases hy
        | some w => rw [z] at hy; exact congrArg some hy
      have hsj : σ[j]? = some (some v) := by
        cases z : σ[j]? with
        | none => rw [z] at hx; cases hx
        | some w => rw [z] at hx; exact congrArg some hx
      cases sl with
      | val d => exact s
      | own m =>
        obtain ⟨a, us, rfl, a0, af, ah, ar⟩ := s
        have ne : a ≠ p := fun z => hj (hd _ p pl rfl h hej hσ (z ▸ hsj))
        exact ⟨a, us, rfl, a0, af, by rw [upd_ne ne]; exact ah, ar⟩
      | st x y =>
        obtain ⟨a, rfl, a1, a0, af, ah⟩ := s
        have ne : a ≠ p := fun z => hj (hd _ p pl rfl h hej hσ (z ▸ hsj))
        exact ⟨a, rfl, a1, a0, af, by rw [upd_ne ne]; exact ah⟩
      | dic m =>
        obtain ⟨a, L, rfl, a0, af, ah, ar⟩ := s
        have ne : a ≠ p := fun z => hj (hd _ p pl rfl h hej hσ (z ▸ hsj))
        exact ⟨a, L, rfl, a0, af, by rw [upd_ne ne]; exact ah, ar⟩
      | obj c m =>
        obtain ⟨a, C, dx, vs, rfl, a1, a2, a0, af, ah, al, ar⟩ := s
        have ne : a ≠ p := fun z => hj (hd _ p pl rfl h hej hσ (z ▸ hsj))
        exact ⟨a, C, dx, vs, rfl, a1, a2, a0, af, by rw [upd_ne ne]; exact ah, al, ar⟩
theorem EnvOk.dis' {F0 H0 : Hp} {σ : Sg} {env : En} (e : EnvOk S F0 H0 F H σ env) {i : Nat} {l l' : Sl} (pl : l.pv = true) (h : env[i]? = some (some l)) :
    ∀ (j k : Nat) (a b : Sl) (p : Addr), a.pv = true → b.pv = true → (env.set i (some l'))[j]? = some (some a) → (env.set i (some l'))[k]? = some (some b) → σ[j]? = some (some (.ref p)) → σ[k]? = some (some (.ref p)) → j = k := fun j k a b p ha hb h1 h2 h3 h4 => by
  have back : ∀ {j : Nat} {m : Sl}, m.pv = true → (env.set i (some l'))[j]? = some (some m) → ∃ m', m'.pv = true ∧ env[j]? = some (some m') := fun {j m} hm hh => by
    rcases En.set_at hh with ⟨n, _⟩ | ⟨n, g⟩
    · exact ⟨l, pl, n ▸ h⟩
    · exact ⟨m, hm, g⟩
  obtain ⟨m1, p1, b1⟩ := back ha h1
  obtain ⟨m2, p2, b2⟩ := back hb h2
  exact e.dis j k m1 m2 p p1 p2 b1 b2 h3 h4
/-- the private list of slot i is written -/
theorem EnvOk.write {F0 H0 : Hp} {σ : Sg} {env : En} (e : EnvOk S F0 H0 F H σ env) {i : Nat} {p : Addr} {l l' : List Dv} {vs' : List V} (h : env[i]? = some (some (.own l))) (hσ : σ[i]? = some (some (.ref p)))
    (r : RpL S F vs' l') : EnvOk S F0 H0 F (upd H p (.lst vs')) σ (env.set i (some (.own l'))) := by
  obtain ⟨q, vs, hq, h0, fp, hp, _⟩ := e.own h
  have e2 : q = p := by
    rw [hσ] at hq
    cases hq
    rfl
  subst e2
  have fr : ∀ a, F a ≠ none → a ≠ q := fun a ha z => ha (z ▸ fp)
  refine ⟨⟨e.g.ff, fun a u n ha => ?_, fun a ha => ?_, fun a u ha => ?_, e.g.fz⟩, by rw [List.length_set, e.len], fun j => ?_, e.dis' rfl h⟩
  · rw [upd_ne fun z => by rw [z, h0] at ha; cases ha]
    exact e.g.hh a u n ha
  · rw [upd_ne fun z => ha (by rw [z]; exact h0)]
    exact e.g.he a ha
  · rw [upd_ne (fr a (by rw [ha]; intro z; cases z))]
    exact e.g.fh a u ha
  · by_cases hj : i = j
    · subst hj
      rw [List.getElem?_set_self (List.getElem?_eq_some_iff.mp h).1, hσ]
      exact ⟨q, vs', rfl, h0, fp, upd_same, r⟩
    · rw [List.getElem?_set_ne hj]
      exact e.others rfl h hσ hj
/-- a draw -/
theorem EnvOk.draw {F0 H0 : Hp} {σ : Sg} {env : En} (e : EnvOk S F0 H0 F H σ env) {i : Nat} {p : Addr} {a b : Int} (a' b' : Int) (h : env[i]? = some (some (.st a b))) (hσ : σ[i]? = some (some (.ref p))) :
    EnvOk S F0 H0 F (upd H p (.lst [.int a', .int b'])) σ (env.set i (some (.st a' b'))) := by
  obtain ⟨q, hq, hs, h0, fp, hp⟩ := e.st h
  have e2 : q = p := by
    rw [hσ] at hq
    cases hq
    rfl
  subst e2
  have fr : ∀ a, F a ≠ none → a ≠ q := fun a ha z => ha (z ▸ fp)
  refine ⟨⟨e.g.ff, fun a u n ha => ?_, fun a ha => ?_, fun a u ha => ?_, e.g.fz⟩, by rw [List.length_set, e.len], fun j => ?_, e.dis' rfl h⟩
  · rw [upd_ne fun z => n (by rw [z]; exact hs)]
    exact e.g.hh a u n ha
  · by_cases z : a = q
    · subst z
      rw [upd_same]
      intro z
      cases z
    · rw [upd_ne z]
      exact e.g.he a ha
  · rw [upd_ne (fr a (by rw [ha]; intro z; cases z))]
    exact e.g.fh a u ha
  · by_cases hj : i = j
    · subst hj
      rw [List.getElem?_set_self (List.getElem?_eq_some_iff.mp h).1, hσ]
      exact ⟨q, rfl, hs, h0, fp, upd_same⟩
    · rw [List.getElem?_set_ne hj]
      exact e.others rfl h hσ hj
/-- what was made since is kept apart from the slots -/
theorem EnvOk.new {F0 H0 : Hp} {σ : Sg} {env : En} (e : EnvOk S F0 H0 F H σ env) {p : Addr} (hp : H p = none) (j : Nat) (m : Sl) (hm : m.pv = true) (h : env[j]? = some (some m)) : σ[j]? ≠ some (some (.ref p)) := fun z => by
  cases m with
  | val d => cases hm
  | own l =>
    obtain ⟨q, vs, h1, h2, h3, h4, h5⟩ := e.own h
    rw [h1] at z
    cases z
    rw [hp] at h4
    cases h4
  | st a b =>
    obtain ⟨q, h1, h2, h3, h4, h5⟩ := e.st h
    rw [h1] at z
    cases z
    rw [hp] at h5
    cases h5
  | dic l =>
    obtain ⟨v, h1, q, L, rfl, h2, h3, h4, h5⟩ := e.at h
    rw [h1] at z
    cases z
    rw [hp] at h4
    cases h4
  | obj c l =>
    obtain ⟨v, h1, q, C, dx, vs, rfl, h2, h3, h4, h5, h6, h7⟩ := e.at h
    rw [h1] at z
    cases z
    rw [hp] at h6
    cases h6
/-- something apart from all slots is written -/
def Apart (σ : Sg) (env : En) (D : Addr) : Prop := ∀ (j : Nat) (m : Sl), m.pv = true → env[j]? = some (some m) → σ[j]? ≠ some (some (.ref D))
theorem EnvOk.aside {F0 H0 : Hp} {σ : Sg} {env : En} (e : EnvOk S F0 H0 F H σ env) {D : Addr} {o : HO} (h0 : H0 D = none) (fd : F D = none) (ap : Apart σ env D) : EnvOk S F0 H0 F (upd H D o) σ env := by
  refine ⟨⟨e.g.ff, fun a u n ha => ?_, fun a ha => ?_, fun a u ha => ?_, e.g.fz⟩, e.len, fun j => ?_, e.dis⟩
  · rw [upd_ne fun z => by rw [z, h0] at ha; cases ha]
    exact e.g.hh a u n ha
  · by_cases z : a = D
    · rw [z, upd_same]
      intro z
      cases z
    · rw [upd_ne z]
      exact e.g.he a ha
  · rw [upd_ne fun z => by rw [z, fd] at ha; cases ha]
    exact e.g.fh a u ha
  · have s := e.slot j
    have an := ap j
    generalize hx : σ[j]?.getD none = x at s ⊢
    generalize hy : env[j]?.getD none = y at s ⊢
    cases y with
    | none => cases x <;> trivial
    | some sl =>
      cases x with
      | none => exact s
      | some v =>
        have hej : env[j]? = some (some sl) := by
          cases z : env[j]? with
          | none => rw [z] at hy; cases hy
          | some w => rw [z] at hy; exact congrArg some hy
        have hsj : σ[j]? = some (some v) := by
          cases z : σ[j]? with
          | none => rw [z] at hx; cases hx
          | some w => rw [z] at hx; exact congrArg some hx
        cases sl with
        | val d => exact s
        | own m =>
          obtain ⟨a, us, rfl, a0, af, ah, ar⟩ := s
          exact ⟨a, us, rfl, a0, af, by rw [upd_ne fun z => an _ rfl hej (by rw [hsj, z])]; exact ah, ar⟩
        | st x y =>
          obtain ⟨a, rfl, a1, a0, af, ah⟩ := s
          exact ⟨a, rfl, a1, a0, af, by rw [upd_ne fun z => an _ rfl hej (by rw [hsj, z])]; exact ah⟩
        | dic m =>
          obtain ⟨a, L, rfl, a0, af, ah, ar⟩ := s
          exact ⟨a, L, rfl, a0, af, by rw [upd_ne fun z => an _ rfl hej (by rw [hsj, z])]; exact ah, ar⟩
        | obj c m =>
          obtain ⟨a, C, dx, vs, rfl, a1, a2, a0, af, ah, al, ar⟩ := s
          exact ⟨a, C, dx, vs, rfl, a1, a2, a0, af, by rw [upd_ne fun z => an _ rfl hej (by rw [hsj, z])]; exact ah, al, ar⟩
/-- something apart from all slots is shared from here on -/
theorem EnvOk.give {F0 H0 : Hp} {σ : Sg} {env : En} (e : EnvOk S F0 H0 F H σ env) {D : Addr} {o : HO} (h0 : H0 D = none) (fd : F D = none) (hd : H D = some o) (ap : Apart σ env D) : EnvOk S F0 H0 (upd F D o) H σ env := by
  have ex : Ext F (upd F D o) := Evl.Ex.new fd
  refine ⟨⟨e.g.ff.trans ex, e.g.hh, e.g.he, fun a u ha => ?_, fun a ha => ?_⟩, e.len, fun j => ?_, e.dis⟩
  · by_cases q : a = D
    · subst q
      rw [upd_same] at ha
      rw [hd]
      exact ha
    · rw [upd_ne q] at ha
      exact e.g.fh a u ha
  · rw [upd_ne fun q => ha (by rw [q]; exact h0)]
    exact e.g.fz a ha
  · have s := e.slot j
    have an := ap j
    generalize hx : σ[j]?.getD none = x at s ⊢
    generalize hy : env[j]?.getD none = y at s ⊢
    cases y with
    | none => cases x <;> trivial
    | some sl =>
      cases x with
      | none => exact s
      | some v =>
        have hej : env[j]? = some (some sl) := by
          cases z : env[j]? with
          | none => rw [z] at hy; cases hy
          | some w => rw [z] at hy; exact congrArg some hy
        have hsj : σ[j]? = some (some v) := by
          cases z : σ[j]? with
          | none => rw [z] at hx; cases hx
          | some w => rw [z] at hx; exact congrArg some hx
        cases sl with
        | val d => exact Rp.mono ex s
        | own m =>
          obtain ⟨a, us, rfl, a0, af, ah, ar⟩ := s
          exact ⟨a, us, rfl, a0, by rw [upd_ne fun z => an _ rfl hej (by rw [hsj, z])]; exact af, ah, ar.mono ex⟩
        | st x y =>
          obtain ⟨a, rfl, a1, a0, af, ah⟩ := s
          exact ⟨a, rfl, a1, a0, by rw [upd_ne fun z => an _ rfl hej (by rw [hsj, z])]; exact af, ah⟩
        | dic m =>
          obtain ⟨a, L, rfl, a0, af, ah, ar⟩ := s
          exact ⟨a, L, rfl, a0, by rw [upd_ne fun z => an _ rfl hej (by rw [hsj, z])]; exact af, ah, ar.mono ex⟩
        | obj c m =>
          obtain ⟨a, C, dx, vs, rfl, a1, a2, a0, af, ah, al, ar⟩ := s
          exact ⟨a, C, dx, vs, rfl, a1, a2, a0, by rw [upd_ne fun z => an _ rfl hej (by rw [hsj, z])]; exact af, ah, al, ar.mono ex⟩
/-- a slot's private list becomes shared -/
def frz (i : Nat) (env : En) : En := match env[i]? with
  | some (some (.own l)) => env.set i (some (.val (.lst l)))
  | _ => env
theorem EnvOk.frz {F0 H0 : Hp} {σ : Sg} {env : En} (e : EnvOk S F0 H0 F H σ env) (i : Nat) : ∃ F', GrowX S F0 H0 F' H ∧ Ext F F' ∧ EnvOk S F0 H0 F' H σ (frz i env) := by
  unfold Py.frz
  split
  · rename_i l h
    obtain ⟨p, vs, hσ, h0, fp, hp, r⟩ := e.own h
    have ex : Ext F (upd F p (.lst vs)) := Evl.Ex.new fp
    have g2 : GrowX S F0 H0 (upd F p (.lst vs)) H := by
      refine ⟨e.g.ff.trans ex, e.g.hh, e.g.he, fun a u e' => ?_, fun a ha => ?_⟩
      · by_cases q : a = p
        · subst q
          rw [upd_same] at e'
          rw [hp]
          exact e'
        · rw [upd_ne q] at e'
          exact e.g.fh a u e'
      · rw [upd_ne fun q => ha (by rw [q]; exact h0)]
        exact e.g.fz a ha
    refine ⟨upd F p (.lst vs), g2, ex, g2, by rw [List.length_set, e.len], fun j => ?_, fun j k l1 m a hl hm h1 h2 h3 h4 => ?_⟩
    · by_cases hj : i = j
      · subst hj
        rw [List.getElem?_set_self (List.getElem?_eq_some_iff.mp h).1, hσ]
        exact Rp.lst upd_same (r.mono ex)
      · rw [List.getElem?_set_ne hj]
        have s := e.slot j
        have hd := e.dis i j (.own l)
        generalize hx : σ[j]?.getD none = x at s ⊢
        generalize hy : env[j]?.getD none = y at s ⊢
        cases y with
        | none => cases x <;> trivial
        | some sl =>
          cases x with
          | none => exact s
          | some v =>
            have hej : env[j]? = some (some sl) := by
              cases z : env[j]? with
              | none => rw [z] at hy; cases hy
              | some w => rw [z] at hy; exact congrArg some hy
            have hsj : σ[j]? = some (some v) := by
              cases z : σ[j]? with
              | none => rw [z] at hx; cases hx
              | some w => rw [z] at hx; exact congrArg some hx
            cases sl with
            | val d => exact Rp.mono ex s
            | own m =>
              obtain ⟨a, us, rfl, a0, af, ah, ar⟩ := s
              have ne : a ≠ p := fun z => hj (hd _ p rfl rfl h hej hσ (z ▸ hsj))
              exact ⟨a, us, rfl, a0, by rw [upd_ne ne]; exact af, ah, ar.mono ex⟩
            | st x y =>
              obtain ⟨a, rfl, a1, a0, af, ah⟩ := s
              have ne : a ≠ p := fun z => hj (hd _ p rfl rfl h hej hσ (z ▸ hsj))
              exact ⟨a, rfl, a1, a0, by rw [upd_ne ne]; exact af, ah⟩
            | dic m =>
              obtain ⟨a, L, rfl, a0, af, ah, ar⟩ := s
              have ne : a ≠ p := fun z => hj (hd _ p rfl rfl h hej hσ (z ▸ hsj))
              exact ⟨a, L, rfl, a0, by rw [upd_ne ne]; exact af, ah, ar.mono ex⟩
            | obj c m =>
              obtain ⟨a, C, dx, vs, rfl, a1, a2, a0, af, ah, al, ar⟩ := s
              have ne : a ≠ p := fun z => hj (hd _ p rfl rfl h hej hσ (z ▸ hsj))
              exact ⟨a, C, dx, vs, rfl, a1, a2, a0, by rw [upd_ne ne]; exact af, ah, al, ar.mono ex⟩
    · rcases En.set_at h1 with ⟨_, z⟩ | ⟨n1, h1⟩
      · cases z; cases hl
      · rcases En.set_at h2 with ⟨_, z⟩ | ⟨n2, h2⟩
        · cases z; cases hm
        · exact e.dis j k l1 m a hl hm h1 h2 h3 h4
  · exact ⟨F, e.g, Evl.Ex.refl F, e⟩
end
end Py
namespace Py
open PySem PySem.Spec PyProof.Rows L2

/-! ### where one stands: what is fixed in the text -/
structure Fm where
  N : List Str
  sc : Scope
  fn : Str → Bool
structure Fit (S : Sx) (k : Nat) (f : Fm) (X : Cx) : Prop where
  hP : X.prog = S.P
  hw : X.w = S.w
  hK : X.K = S.K
  hm : X.mg = S.mg
  hb : X.base = S.base
  hN : X.N = f.N
  hs : X.env.scope = f.sc
  hf : X.fn = f.fn
  calm : X.calm = true
  room : Room k X.A
  po : PassesOwn (model X.prog X.w) X.A X.env X.xe
  nd : f.N.Nodup
section
variable {α β γ : Type}
/-- what is wanted behind an expression whose reading is r -/
def Post (S : Sx) (W : WX) (σ : Sg) (F H : Hp) (good : Hp → Hp → Hp → V → α → Prop) (r : R α) (Q : VK) : Prop := match r with
  | .ok a => ∀ v F' H', Grow F H F' H' → good H F' H' v a → Q v H'
  | .err x => ∀ c d F' H', Grow F H F' H' → ExcR S x c d → W c d σ H'
  | .stuck => False
/-- an expression's reading is m, by the slots -/
structure J (S : Sx) (k : Nat) (f : Fm) (good : Hp → Hp → Hp → V → α → Prop) (e : Expr) (m : En → R α) : Prop where
  run : ∀ (X : Cx) (W : WX), Fit S k f X → Takes X W → ∀ (pins : List (Addr × Obj)) (s : Shared) (F0 H0 F H : Hp) (σ : Sg) (env : En) (Q : VK), EnvOk S F0 H0 F H σ env → Inv X pins σ H s →
    Post S W σ F H good (m env) Q → wpAny (model X.prog X.w) X.A (eval e X.env) (EP X pins σ Q) X.xe s
instance {S : Sx} {k : Nat} {f : Fm} {good : Hp → Hp → Hp → V → α → Prop} {e : Expr} {m : En → R α} : CoeFun (J S k f good e m) (fun _ => ∀ (X : Cx) (W : WX), Fit S k f X → Takes X W → ∀ (pins : List (Addr × Obj)) (s : Shared) (F0 H0 F H : Hp) (σ : Sg) (env : En) (Q : VK), EnvOk S F0 H0 F H σ env → Inv X pins σ H s →
    Post S W σ F H good (m env) Q → wpAny (model X.prog X.w) X.A (eval e X.env) (EP X pins σ Q) X.xe s) := ⟨fun h => h.run⟩
abbrev JD (S : Sx) (k : Nat) (f : Fm) := J S k f (gD S)
abbrev JB (S : Sx) (k : Nat) (f : Fm) := J S k f (gB S)
abbrev JL (S : Sx) (k : Nat) (f : Fm) := J S k f (gL S)
abbrev JX (S : Sx) (k : Nat) (f : Fm) := J S k f (gS S)
/-- the widest reading of an expression -/
def rd (X : Cx) (e : Expr) : TE := fun σ H Q => ∀ (pins : List (Addr × Obj)) (s : Shared), Inv X pins σ H s → wpAny (model X.prog X.w) X.A (eval e X.env) (EP X pins σ Q) X.xe s
theorem pe_rd {X : Cx} {e : Expr} : PE X e (rd X e) := ⟨fun pins s _ _ _ I h => h pins s I⟩
def Anti (good : Hp → Hp → Hp → V → α → Prop) : Prop := ∀ H H1 F' H' v a, Ext H H1 → good H1 F' H' v a → good H F' H' v a
theorem anti_D {S : Sx} : Anti (gD S) := fun _ _ _ _ _ _ _ h => h
theorem anti_B {S : Sx} : Anti (gB S) := fun _ _ _ _ _ _ _ h => h
theorem anti_L {S : Sx} : Anti (gL S) := fun _ _ _ _ _ _ e ⟨p, vs, a, b, c⟩ => ⟨p, vs, a, Evl.fresh_back e b, c⟩
theorem anti_S {S : Sx} : Anti (gS S) := fun H H1 F' H' v a e h => by
  cases a with
  | val d => exact h
  | own l => exact anti_L H H1 F' H' v l e h
  | st a b => exact h
  | dic l => exact h
  | obj c l => exact h
variable {S : Sx} {k : Nat} {f : Fm} {ga : Hp → Hp → Hp → V → α → Prop} {gb : Hp → Hp → Hp → V → β → Prop} {W : WX} {σ : Sg} {F H F1 H1 F0 H0 : Hp} {env : En} {Q : VK} {X : Cx} {e : Expr}
theorem Post.grow {r : R α} (an : Anti ga) (h : Post S W σ F H ga r Q) (g : Grow F H F1 H1) : Post S W σ F1 H1 ga r Q := by
  cases r with
  | ok a => exact fun v F' H' g' gd => h v F' H' (g.trans g') (an _ _ _ _ _ _ g.hh gd)
  | err x => exact fun c d F' H' g' ex => h c d F' H' (g.trans g') ex
  | stuck => exact h
/-- the part a runs first -/
theorem J.go {a : Expr} {ma : En → R α} (ja : J S k f ga a ma) (fit : Fit S k f X) (tk : Takes X W) (eo : EnvOk S F0 H0 F H σ env) {r : R β} {g : α → R β} (hr : r = (ma env).bind g) (hp : Post S W σ F H gb r Q) (an : Anti gb) {Q' : VK}
    (h : ∀ x v F1 H1, Grow F H F1 H1 → ga H F1 H1 v x → EnvOk S F0 H0 F1 H1 σ env → Post S W σ F1 H1 gb (g x) Q → Q' v H1) : rd X a σ H Q' := fun pins s I => by
  refine ja X W fit tk pins s F0 H0 F H σ env Q' eo I ?_
  rw [hr] at hp
  cases q : ma env with
  | ok x =>
    rw [q] at hp
    exact fun v F' H' g' gd => h x v F' H' g' gd (eo.grow g') (hp.grow an g')
  | err x =>
    rw [q] at hp
    exact hp
  | stuck =>
    rw [q] at hp
    exact hp
/-- by a rule of the layer -/
theorem j_pe {m : En → R α} (h : ∀ (X : Cx) (W : WX), Fit S k f X → Takes X W → ∃ t, PE X e t ∧ ∀ (F0 H0 F H : Hp) (σ : Sg) (env : En) (Q : VK), EnvOk S F0 H0 F H σ env → Post S W σ F H ga (m env) Q → t σ H Q) : J S k f ga e m :=
  ⟨fun X W fit tk pins s F0 H0 F H σ env Q eo I hp => by
    obtain ⟨t, p, ht⟩ := h X W fit tk
    exact p.run pins s σ H Q I (ht F0 H0 F H σ env Q eo hp)⟩
/-- another reading that says the same -/
theorem J.to {m m' : En → R α} (h : J S k f ga e m) (q : ∀ env, m' env = m env) : J S k f ga e m' := ⟨fun X W fit tk pins s F0 H0 F H σ env Q eo I hp =>
  h X W fit tk pins s F0 H0 F H σ env Q eo I (by rw [← q env]; exact hp)⟩
/-- a result seen otherwise -/
theorem J.see {g2 : Hp → Hp → Hp → V → β → Prop} {m : En → R α} {c : α → β} (h : J S k f ga e m)
    (hc : ∀ H F' H' v a F, Grow F H F' H' → ga H F' H' v a → ∃ F2, Grow F H F2 H' ∧ g2 H F2 H' v (c a)) : J S k f g2 e (fun env => (m env).map c) := ⟨fun X W fit tk pins s F0 H0 F H σ env Q eo I hp => by
  refine h X W fit tk pins s F0 H0 F H σ env Q eo I ?_
  cases q : m env with
  | ok a =>
    simp only [q, R.map] at hp
    intro v F' H' g gd
    obtain ⟨F2, g2, gd2⟩ := hc H F' H' v a F g gd
    exact hp v F2 H' g2 gd2
  | err x =>
    simp only [q, R.map] at hp
    exact hp
  | stuck =>
    simp only [q, R.map] at hp
    exact hp⟩
theorem R.map_id {r : R α} : r.map (fun x => x) = r := by cases r <;> rfl
theorem jb_d {m : En → R Dv} (h : JD S k f e m) : JB S k f e m := (h.see (g2 := gB S) (c := fun x => x) fun H F' H' v a F g gd => ⟨F', g, .sh gd⟩).to fun env => R.map_id.symm
theorem gL.share {v : V} {l : List Dv} {F' H' : Hp} (g : Grow F H F' H') (gd : gL S H F' H' v l) : ∃ F2, Grow F H F2 H' ∧ Rp S F2 v (.lst l) := by
  obtain ⟨p, vs, rfl, h0, fp, hp, r⟩ := gd
  exact ⟨upd F' p (.lst vs), g.share h0 fp hp, .lst upd_same (r.mono (Evl.Ex.new fp))⟩
theorem gS.share {v : V} {l : Sl} {F' H' : Hp} (g : Grow F H F' H') (gd : gS S H F' H' v l) : ∃ F2, Grow F H F2 H' ∧ Rp S F2 v l.d := by
  cases l with
  | val d => exact ⟨F', g, gd⟩
  | own l => exact gL.share g gd
  | st a b => exact gd.elim
  | dic l => exact gd.elim
  | obj c l => exact gd.elim
theorem gS.look {v : V} {l : Sl} {F' H' : Hp} (gd : gS S H F' H' v l) : RpB S F' H' v l.d := by
  cases l with
  | val d => exact .sh gd
  | own l =>
    obtain ⟨p, vs, rfl, h0, fp, hp, r⟩ := gd
    exact .pv fp hp r
  | st a b => exact gd.elim
  | dic l => exact gd.elim
  | obj c l => exact gd.elim
theorem jd_l {m : En → R (List Dv)} (h : JL S k f e m) : JD S k f e (fun env => (m env).map .lst) := h.see fun _ _ _ _ _ _ g gd => gL.share g gd
theorem jd_x {m : En → R Sl} (h : JX S k f e m) : JD S k f e (fun env => (m env).map Sl.d) := h.see fun _ _ _ _ _ _ g gd => gS.share g gd
theorem jb_l {m : En → R (List Dv)} (h : JL S k f e m) : JB S k f e (fun env => (m env).map .lst) := h.see fun _ F' _ _ _ _ g gd => ⟨F', g, gS.look (l := .own _) gd⟩
theorem jb_x {m : En → R Sl} (h : JX S k f e m) : JB S k f e (fun env => (m env).map Sl.d) := h.see fun _ F' _ _ _ _ g gd => ⟨F', g, gd.look⟩
theorem jx_d {m : En → R Dv} (h : JD S k f e m) : JX S k f e (fun env => (m env).map .val) := h.see fun _ F' _ _ _ _ g gd => ⟨F', g, gd⟩
theorem jx_l {m : En → R (List Dv)} (h : JL S k f e m) : JX S k f e (fun env => (m env).map .own) := h.see fun _ F' _ _ _ _ g gd => ⟨F', g, gd⟩
end

/-! ### names and constants -/
def visB (sc : Scope) (x : Str) : Bool := match sc.names.lookup x with
  | some .local => true
  | some .cell => true
  | some .free => true
  | _ => false
theorem vis_of {sc : Scope} {x : Str} (h : visB sc x = true) : Vis sc x := by
  unfold visB at h
  split at h
  · exact .inl (by assumption)
  · exact .inr (.inl (by assumption))
  · exact .inr (.inr (by assumption))
  · cases h
/-- the name's place and that it is seen here: one check -/
def visA (f : Fm) (i : Nat) (x : Str) : Bool := decide (f.N[i]? = some x) && visB f.sc x && !(x == ("__debug__" : Str)) && !(x == ("__classdict__" : Str))
theorem visA_of {f : Fm} {i : Nat} {x : Str} (h : visA f i x = true) : f.N[i]? = some x ∧ Vis f.sc x ∧ (x == ("__debug__" : Str)) = false ∧ (x == ("__classdict__" : Str)) = false := by
  unfold visA at h
  simp only [Bool.and_eq_true, decide_eq_true_eq, Bool.not_eq_true'] at h
  exact ⟨h.1.1.1, vis_of h.1.1.2, h.1.2, h.2⟩
def valAt (i : Nat) (env : En) : R Dv := match env[i]? with
  | some (some (.val d)) => .ok d
  | _ => .stuck
def lookAt (i : Nat) (env : En) : R Dv := match env[i]? with
  | some (some (.val d)) => .ok d
  | some (some (.own l)) => .ok (.lst l)
  | _ => .stuck
section
variable {S : Sx} {k : Nat} {f : Fm} {pos : Pos}
theorem pe_v {X : Cx} (fit : Fit S k f X) {i : Nat} {x : Str} (h : visA f i x = true) : PE X (.Name x pos) (tVar i) := by
  obtain ⟨h1, h2, h3, h4⟩ := visA_of h
  exact pe_var (by rw [fit.hN]; exact h1) (by rw [fit.hs]; exact h2) h3 h4
theorem jd_v {x : Str} (i : Nat) (h : visA f i x = true) : JD S k f (.Name x pos) (valAt i) := j_pe fun X W fit tk =>
  ⟨_, pe_v fit h, fun F0 H0 F H σ env Q eo hp => by
    unfold valAt at hp
    split at hp
    · rename_i d e
      obtain ⟨v, hv, r⟩ := eo.val e
      exact ⟨v, hv, hp v F H (Grow.refl eo.g.fh) r⟩
    · exact hp.elim⟩
theorem jb_v {x : Str} (i : Nat) (h : visA f i x = true) : JB S k f (.Name x pos) (lookAt i) := j_pe fun X W fit tk =>
  ⟨_, pe_v fit h, fun F0 H0 F H σ env Q eo hp => by
    unfold lookAt at hp
    split at hp
    · rename_i d e
      obtain ⟨v, hv, r⟩ := eo.val e
      exact ⟨v, hv, hp v F H (Grow.refl eo.g.fh) (.sh r)⟩
    · rename_i l e
      obtain ⟨p, vs, hv, h0, fp, hpp, r⟩ := eo.own e
      exact ⟨.ref p, hv, hp (.ref p) F H (Grow.refl eo.g.fh) (.pv fp hpp r)⟩
    · exact hp.elim⟩
theorem jd_c {e : Expr} {v : V} {d : Dv} (h : ∀ X : Cx, PE X e (tC v)) (r : ∀ F, Rp S F v d) : JD S k f e (fun _ => .ok d) := j_pe fun X W fit tk =>
  ⟨_, h X, fun F0 H0 F H σ env Q eo hp => hp v F H (Grow.refl eo.g.fh) (r F)⟩
theorem jd_int {i : Int} {j : Nat} : JD S k f (.Constant (.int i) j pos) (fun _ => .ok (.int i)) := jd_c (fun _ => pe_int) fun _ => .int i
theorem jd_bl {b : Bool} {j : Nat} : JD S k f (.Constant (.bool b) j pos) (fun _ => .ok (.bl b)) := jd_c (fun _ => pe_bl) fun _ => .bl b
theorem jd_non {j : Nat} : JD S k f (.Constant .none j pos) (fun _ => .ok .non) := jd_c (fun _ => pe_non) fun _ => .non
theorem jd_str {x : Str} {j : Nat} : JD S k f (.Constant (.str x) j pos) (fun _ => .ok (.str x)) := jd_c (fun _ => pe_str) fun _ => .str x
/-- a def as a value -/
def glB (sc : Scope) (x : Str) : Bool := (match sc.names.lookup x with | some .globalImplicit => true | _ => false) && !(x == ("__debug__" : Str)) && !(x == ("__name__" : Str))
theorem glB_of {X : Cx} (fit : Fit S k f X) {x : Str} (h : glB f.sc x = true) : Gl X x ∧ (x == ("__debug__" : Str)) = false ∧ x ≠ "__name__" := by
  unfold glB at h
  simp only [Bool.and_eq_true, Bool.not_eq_true'] at h
  refine ⟨?_, h.1.2, fun e => ?_⟩
  · have z := h.1.1
    split at z
    · rename_i q
      show X.env.scope.names.lookup x = _
      rw [fit.hs]
      exact q
    · cases z
  · have z := h.2
    rw [e] at z
    exact absurd z (by decide)
theorem jd_fn {x : Str} {n : Nat} {a : Addr} (h : glB f.sc x = true) (hm : S.mg x = some (.ref a)) (ha : S.ft n = some a) : JD S k f (.Name x pos) (fun _ => .ok (.fn n)) := j_pe fun X W fit tk =>
  ⟨_, pe_glob (v := .ref a) (glB_of fit h).1 (by rw [fit.hm]; exact hm) rfl (glB_of fit h).2.1, fun F0 H0 F H σ env Q eo hp => hp (.ref a) F H (Grow.refl eo.g.fh) (.fn ha)⟩
/-- a module's number -/
theorem jd_mg {x : Str} {i : Int} {t : Tok} (h : glB f.sc x = true) (hm : S.mg x = some (.int i t)) : JD S k f (.Name x pos) (fun _ => .ok (.int i)) := j_pe fun X W fit tk =>
  ⟨_, pe_glob (v := .int i) (glB_of fit h).1 (by rw [fit.hm]; exact hm) ⟨t, rfl⟩ (glB_of fit h).2.1, fun F0 H0 F H σ env Q eo hp => hp (.int i) F H (Grow.refl eo.g.fh) (.int i)⟩
end

/-! ### operators -/
section
variable {α : Type} {S : Sx} {k : Nat} {f : Fm} {pos : Pos} {good : Hp → Hp → Hp → V → α → Prop} {a b : Expr} {ma mb : En → R Dv} {fd : Dv → Dv → R α} {r : Cx → R2}
/-- what an operator's reading r asks, from the data -/
def Op2 (S : Sx) (k : Nat) (f : Fm) (good : Hp → Hp → Hp → V → α → Prop) (r : Cx → R2) (fd : Dv → Dv → R α) : Prop :=
  ∀ (X : Cx) (W : WX) (σ : Sg) (F H : Hp) (v u : V) (x y : Dv) (Q : VK), Fit S k f X → Ext F H → RpB S F H v x → RpB S F H u y → Post S W σ F H good (fd x y) Q → r X v u H Q
theorem op2_run (an : Anti good) (hm : Op2 S k f good r fd) (ja : JB S k f a ma) (jb : JB S k f b mb) {X : Cx} {W : WX} (fit : Fit S k f X) (tk : Takes X W) {F0 H0 F H : Hp} {σ : Sg} {env : En} {Q : VK} (eo : EnvOk S F0 H0 F H σ env)
    (hp : Post S W σ F H good ((ma env).bind fun x => (mb env).bind fun y => fd x y) Q) : tOp (r X) (rd X a) (rd X b) σ H Q :=
  ja.go fit tk eo rfl hp an fun x v F1 H1 g1 r1 eo1 hp1 => jb.go fit tk eo1 rfl hp1 an fun y u F2 H2 g2 r2 eo2 hp2 =>
    hm X W σ F2 H2 v u x y Q fit eo2.g.fh (RpB.grow r1 g2) r2 hp2
theorem j_bin {op : Operator} (an : Anti good) (ho : ∀ X, Fit S k f X → OpR X (binaryOp op) (r X)) (hm : Op2 S k f good r fd) (ja : JB S k f a ma) (jb : JB S k f b mb) :
    J S k f good (.BinOp a op b pos) (fun env => (ma env).bind fun x => (mb env).bind fun y => fd x y) := j_pe fun X W fit tk =>
  ⟨_, pe_op (ho X fit) pe_rd pe_rd, fun F0 H0 F H σ env Q eo hp => op2_run an hm ja jb fit tk eo hp⟩
theorem j_cmp {op : CmpOp} (an : Anti good) (ho : ∀ X, Fit S k f X → OpR X (compareOp op) (r X)) (hm : Op2 S k f good r fd) (hk : behindInMarks op b = false) (ja : JB S k f a ma) (jb : JB S k f b mb) :
    J S k f good (.Compare a [op] [b] pos) (fun env => (ma env).bind fun x => (mb env).bind fun y => fd x y) := j_pe fun X W fit tk =>
  ⟨_, pe_cmpR (ho X fit) pe_rd pe_rd hk, fun F0 H0 F H σ env Q eo hp => op2_run an hm ja jb fit tk eo hp⟩
theorem j_ix (an : Anti good) (ho : ∀ X, Fit S k f X → IxR X (r X)) (hm : Op2 S k f good r fd) (hb : PlainIx b) (ja : JB S k f a ma) (jb : JB S k f b mb) :
    J S k f good (.Subscript a b pos) (fun env => (ma env).bind fun x => (mb env).bind fun y => fd x y) := j_pe fun X W fit tk =>
  ⟨_, pe_ix (ho X fit) pe_rd pe_rd hb, fun F0 H0 F H σ env Q eo hp => op2_run an hm ja jb fit tk eo hp⟩
end
end Py
namespace Py
open PySem PySem.Spec PyProof.Rows L2

/-! ### whole numbers, texts, sequences: what the operators give -/
abbrev lineP : Nat := 1000000
theorem lineP_le {n : Nat} (h : n ≤ lineP) : n ≤ sizeLine := Nat.le_trans h (by decide)
theorem lineP_lt {n : Nat} (h : n < lineP) : n < sizeLine := Nat.lt_of_lt_of_le h (by decide)
def addD : Dv → Dv → R Sl
  | .int i, .int j => .ok (.val (.int (i + j)))
  | .str x, .str y => if x.length + y.length ≤ lineP then .ok (.val (.str (x ++ y))) else .stuck
  | .tup x, .tup y => if x.length + y.length ≤ lineP then .ok (.val (.tup (x ++ y))) else .stuck
  | .lst x, .lst y => if x.length + y.length ≤ lineP then .ok (.own (x ++ y)) else .stuck
  | _, _ => .stuck
def subD : Dv → Dv → R Dv
  | .int i, .int j => .ok (.int (i - j))
  | _, _ => .stuck
def mulBig (i j : Int) : Bool := Nat.blt (Nat.log2 i.natAbs + Nat.log2 j.natAbs) 100000000
def smallB (j : Int) : Bool := Nat.blt j.natAbs 4611686018427387904
def mulB (i j : Int) : Bool := smallB j || smallB i || mulBig i j
def mulD : Dv → Dv → R Sl
  | .int i, .int j => if mulB i j = true then .ok (.val (.int (i * j))) else .stuck
  | .lst x, .int j => if 0 ≤ j ∧ j ≤ 1000 ∧ x.length ≤ 1000 then .ok (.own (List.replicate j.toNat x).flatten) else .stuck
  | .tup x, .int j => if x ≠ [] ∧ 2 ≤ j ∧ j ≤ 1000 ∧ x.length ≤ 1000 then .ok (.val (.tup (List.replicate j.toNat x).flatten)) else .stuck
  | _, _ => .stuck
def divB (j : Int) : Bool := decide (j ≠ 0) && Nat.blt (Nat.log2 j.natAbs) 9000
def fdivD : Dv → Dv → R Dv
  | .int i, .int j => if divB j = true then .ok (.int (i.fdiv j)) else .stuck
  | _, _ => .stuck
def modD : Dv → Dv → R Dv
  | .int i, .int j => if j ≠ 0 then .ok (.int (i.fmod j)) else .stuck
  | _, _ => .stuck
def ltD : Dv → Dv → R Bool
  | .int i, .int j => .ok (decide (i < j))
  | _, _ => .stuck
def leD : Dv → Dv → R Bool
  | .int i, .int j => .ok (decide (i ≤ j))
  | _, _ => .stuck
def gtD : Dv → Dv → R Bool
  | .int i, .int j => .ok (decide (j < i))
  | _, _ => .stuck
def geD : Dv → Dv → R Bool
  | .int i, .int j => .ok (decide (j ≤ i))
  | _, _ => .stuck
def ixD : Dv → Dv → R Dv
  | .lst x, .int i => match atI x i with
    | some d => .ok d
    | none => .stuck
  | .tup x, .int i => match atI x i with
    | some d => .ok d
    | none => .stuck
  | _, _ => .stuck
/-- ==, of data n deep at most -/
def eqvL (e : Dv → Dv → Bool) : List Dv → List Dv → Bool
  | [], [] => true
  | x :: xs, y :: ys => e x y && eqvL e xs ys
  | _, _ => false
def eqv : Nat → Dv → Dv → Bool
  | _, .non, .non => true
  | _, .bl a, .bl b => a == b
  | _, .bl a, .int j => (if a then 1 else 0) == j
  | _, .int i, .bl b => i == (if b then 1 else 0)
  | _, .int i, .int j => i == j
  | _, .str x, .str y => x == y
  | n + 1, .lst x, .lst y => eqvL (eqv n) x y
  | n + 1, .tup x, .tup y => eqvL (eqv n) x y
  | _, _, _ => false
def okv : Nat → Dv → Bool
  | _, .fn _ => false
  | _, .ins _ _ => false
  | n + 1, .lst x => x.all (okv n)
  | n + 1, .tup x => x.all (okv n)
  | 0, .lst _ => false
  | 0, .tup _ => false
  | _, _ => true
def eqD : Dv → Dv → R Bool
  | .int i, .int j => .ok (i == j)
  | x, y => if okv 12 x = true ∧ okv 12 y = true then .ok (eqv 12 x y) else .stuck
def neD (x y : Dv) : R Bool := (eqD x y).map (!·)
def itemsD : Dv → R (List Dv)
  | .lst l => .ok l
  | .tup l => .ok l
  | _ => .stuck
def inD (x y : Dv) : R Bool := (itemsD y).bind fun l => if okv 12 x = true ∧ l.all (okv 12) = true then .ok (l.any fun z => eqv 12 z x) else .stuck
def ninD (x y : Dv) : R Bool := (inD x y).map (!·)
mutual
def py : Dv → PyData
  | .non => .none
  | .bl b => .bool b
  | .int i => .int i
  | .str x => .str x
  | .lst l => .list (pyL l)
  | .tup l => .tuple (pyL l)
  | .fn _ => .none
  | .ins _ _ => .none
def pyL : List Dv → List PyData
  | [] => []
  | d :: ds => py d :: pyL ds
end
theorem okv_lst {n : Nat} {l : List Dv} (h : okv n (.lst l) = true) : ∃ m, n = m + 1 ∧ l.all (okv m) = true := by
  cases n with
  | zero => simp [okv] at h
  | succ m => exact ⟨m, rfl, by simpa [okv] using h⟩
theorem okv_tup {n : Nat} {l : List Dv} (h : okv n (.tup l) = true) : ∃ m, n = m + 1 ∧ l.all (okv m) = true := by
  cases n with
  | zero => simp [okv] at h
  | succ m => exact ⟨m, rfl, by simpa [okv] using h⟩
mutual
theorem okv_py : ∀ (d : Dv) (n : Nat), okv n d = true → (py d).plain = true ∧ (py d).depth ≤ n
  | .non, n, _ => ⟨rfl, by simp [py, PyData.depth]⟩
  | .bl _, n, _ => ⟨rfl, by simp [py, PyData.depth]⟩
  | .int _, n, _ => ⟨rfl, by simp [py, PyData.depth]⟩
  | .str _, n, _ => ⟨rfl, by simp [py, PyData.depth]⟩
  | .fn _, n, h => by cases n <;> simp [okv] at h
  | .ins _ _, n, h => by cases n <;> simp [okv] at h
  | .lst l, n, h => by
    obtain ⟨m, rfl, h⟩ := okv_lst h
    obtain ⟨a, b⟩ := okv_pyL l m h
    exact ⟨by simpa [py, PyData.plain] using a, by simp only [py, PyData.depth]; omega⟩
  | .tup l, n, h => by
    obtain ⟨m, rfl, h⟩ := okv_tup h
    obtain ⟨a, b⟩ := okv_pyL l m h
    exact ⟨by simpa [py, PyData.plain] using a, by simp only [py, PyData.depth]; omega⟩
theorem okv_pyL : ∀ (l : List Dv) (n : Nat), l.all (okv n) = true → PyData.plainAll (pyL l) = true ∧ PyData.depthAll (pyL l) ≤ n
  | [], n, _ => ⟨rfl, by simp [pyL, PyData.depthAll]⟩
  | d :: ds, n, h => by
    rw [List.all_cons, Bool.and_eq_true] at h
    obtain ⟨a, b⟩ := okv_py d n h.1
    obtain ⟨c, e⟩ := okv_pyL ds n h.2
    exact ⟨by simp [pyL, PyData.plainAll, a, c], by simp only [pyL, PyData.depthAll]; omega⟩
end
mutual
theorem eqv_py : ∀ (x y : Dv) (n : Nat), okv n x = true → okv n y = true → PyData.eqv (py x) (py y) = eqv n x y
  | .lst l, y, n, hx, hy => by
    obtain ⟨m, rfl, h⟩ := okv_lst hx
    cases y with
    | lst l' =>
      obtain ⟨m', e, h'⟩ := okv_lst hy
      cases e
      simp only [py, PyData.eqv, eqv]
      exact eqv_pyL l l' m h h'
    | _ => simp [py, PyData.eqv, eqv] <;> cases hy
  | .tup l, y, n, hx, hy => by
    obtain ⟨m, rfl, h⟩ := okv_tup hx
    cases y with
    | tup l' =>
      obtain ⟨m', e, h'⟩ := okv_tup hy
      cases e
      simp only [py, PyData.eqv, eqv]
      exact eqv_pyL l l' m h h'
    | _ => simp [py, PyData.eqv, eqv] <;> cases hy
  | .non, y, n, hx, hy => by cases y <;> cases n <;> simp_all [py, PyData.eqv, eqv, okv]
  | .bl _, y, n, hx, hy => by cases y <;> cases n <;> simp_all [py, PyData.eqv, eqv, okv]
  | .int _, y, n, hx, hy => by cases y <;> cases n <;> simp_all [py, PyData.eqv, eqv, okv]
  | .str _, y, n, hx, hy => by cases y <;> cases n <;> simp_all [py, PyData.eqv, eqv, okv]
  | .fn _, y, n, hx, hy => by cases n <;> simp [okv] at hx
  | .ins _ _, y, n, hx, hy => by cases n <;> simp [okv] at hx
theorem eqv_pyL : ∀ (l l' : List Dv) (n : Nat), l.all (okv n) = true → l'.all (okv n) = true → PyData.eqvAll (pyL l) (pyL l') = eqvL (eqv n) l l'
  | [], [], _, _, _ => by simp [pyL, PyData.eqvAll, eqvL]
  | [], _ :: _, _, _, _ => by simp [pyL, PyData.eqvAll, eqvL]
  | _ :: _, [], _, _, _ => by simp [pyL, PyData.eqvAll, eqvL]
  | x :: xs, y :: ys, n, hx, hy => by
    rw [List.all_cons, Bool.and_eq_true] at hx hy
    simp only [pyL, PyData.eqvAll, eqvL]
    rw [eqv_py x y n hx.1 hy.1, eqv_pyL xs ys n hx.2 hy.2]
end
section
variable {S : Sx} {F H : Hp}
mutual
theorem Rp.dp {K : PySem.W.Frag} (e : Ext F H) : ∀ {v : V} {d : Dv} (n : Nat), okv n d = true → Rp S F v d → Dp K H v (py d)
  | _, _, _, _, .non => .non
  | _, _, _, _, .bl b => .bl b
  | _, _, _, _, .int i => .int i
  | _, _, _, _, .str x => .str x
  | _, _, n, h, .fn _ => by cases n <;> simp [okv] at h
  | _, _, n, h, .ins _ _ _ _ => by cases n <;> simp [okv] at h
  | _, _, n, h, .lst a b => by
    obtain ⟨m, rfl, h⟩ := okv_lst h
    exact .lst (SqL.of (e _ _ a)) (RpL.dp e m h b)
  | _, _, n, h, .tup a b => by
    obtain ⟨m, rfl, h⟩ := okv_tup h
    exact .tup (SqT.of (e _ _ a)) (RpL.dp e m h b)
theorem RpL.dp {K : PySem.W.Frag} (e : Ext F H) : ∀ {vs : List V} {ds : List Dv} (n : Nat), ds.all (okv n) = true → RpL S F vs ds → DpAll K H vs (pyL ds)
  | _, _, _, _, .nil => .nil
  | _, _, n, h, .cons a b => by
    rw [List.all_cons, Bool.and_eq_true] at h
    exact .cons (Rp.dp e n h.1 a) (RpL.dp e n h.2 b)
end
theorem RpB.dp {K : PySem.W.Frag} (e : Ext F H) {v : V} {d : Dv} {n : Nat} (h : okv n d = true) (r : RpB S F H v d) : Dp K H v (py d) := by
  cases r with
  | sh r => exact r.dp e n h
  | pv a b c =>
    obtain ⟨m, rfl, h⟩ := okv_lst h
    exact .lst (SqL.of b) (RpL.dp e m h c)
/-- a sequence, read -/
theorem RpB.lstAt {v : V} {l : List Dv} (e : Ext F H) (r : RpB S F H v (.lst l)) : ∃ p vs, v = .ref p ∧ H p = some (.lst vs) ∧ RpL S F vs l := by
  cases r with
  | sh r =>
    cases r with
    | lst a b => exact ⟨_, _, rfl, e _ _ a, b⟩
  | pv a b c => exact ⟨_, _, rfl, b, c⟩
theorem RpB.tupAt {v : V} {l : List Dv} (e : Ext F H) (r : RpB S F H v (.tup l)) : ∃ p vs, v = .ref p ∧ F p = some (.tup vs) ∧ H p = some (.tup vs) ∧ RpL S F vs l := by
  cases r with
  | sh r =>
    cases r with
    | tup a b => exact ⟨_, _, rfl, a, e _ _ a, b⟩
theorem RpB.intAt {v : V} {i : Int} (r : RpB S F H v (.int i)) : v = .int i := by
  cases r with
  | sh r => cases r; rfl
theorem RpB.blAt {v : V} {i : Bool} (r : RpB S F H v (.bl i)) : v = .bl i := by
  cases r with
  | sh r => cases r; rfl
theorem RpB.strAt {v : V} {i : Str} (r : RpB S F H v (.str i)) : v = .str i := by
  cases r with
  | sh r => cases r; rfl
theorem RpB.nonAt {v : V} (r : RpB S F H v .non) : v = .non := by
  cases r with
  | sh r => cases r; rfl
theorem RpB.itemsAt {K : PySem.W.Frag} {v : V} {d : Dv} {l : List Dv} (e : Ext F H) (h : itemsD d = .ok l) (r : RpB S F H v d) : ∃ p vs, v = .ref p ∧ (SqL K H p vs ∨ SqT K H p vs) ∧ RpL S F vs l := by
  cases d with
  | lst x =>
    cases h
    obtain ⟨p, vs, a, b, c⟩ := r.lstAt e
    exact ⟨p, vs, a, .inl (SqL.of b), c⟩
  | tup x =>
    cases h
    obtain ⟨p, vs, a, _, b, c⟩ := r.tupAt e
    exact ⟨p, vs, a, .inr (SqT.of b), c⟩
  | _ => cases h
end

/-! ### the operators' readings -/
theorem mulBig_ok {i j : Int} (h : mulBig i j = true) : IntMulOk i j := by
  have h3 : i.natAbs.log2 + j.natAbs.log2 < 100000000 := by
    have z := h
    unfold mulBig at z
    exact Nat.blt_eq.mp z
  have b : ∀ x : Int, Builtin.Int.intBits x ≤ x.natAbs.log2 + 1 := fun x => by
    unfold Builtin.Int.intBits
    split <;> omega
  have h1 := b i
  have h2 := b j
  have e : bitsLine = 134217728 := by decide
  unfold IntMulOk
  intro z
  rw [Bool.and_eq_true] at z
  have z2 := z.2
  unfold Builtin.Int.intTooBig at z2
  have z4 := of_decide_eq_true z2
  rw [e] at z4
  omega
section
variable {X : Cx}
theorem smallB_ok {j : Int} (h : smallB j = true) : -(2 ^ 64) < j ∧ j < 2 ^ 64 := by
  unfold smallB at h
  have z := Nat.blt_eq.mp h
  omega
theorem mulB_ok {i j : Int} (h : mulB i j = true) : IntMulOk i j := by
  unfold mulB at h
  rcases Bool.or_eq_true _ _ ▸ h with h | h
  · rcases Bool.or_eq_true _ _ ▸ h with h | h
    · exact .of_right (intBits_le_64 (smallB_ok h).1 (smallB_ok h).2)
    · exact .of_left (intBits_le_64 (smallB_ok h).1 (smallB_ok h).2)
  · exact mulBig_ok h
theorem op_mulP : OpR X (binaryOp .Mult) (rI (fun i j => mulB i j = true) fun i j => .int (i * j)) := opI fun _ _ _ _ _ _ _ hc q => mul_int q (mulB_ok hc)
theorem op_fdivP : OpR X (binaryOp .FloorDiv) (rI (fun _ j => divB j = true) fun i j => .int (i.fdiv j)) := opI fun i j _ _ _ _ _ hc q => by
  unfold divB at hc
  simp only [Bool.and_eq_true, decide_eq_true_eq] at hc
  exact floordiv_int hc.1 q (.inl (PyProof.noPylong_of_log2 (Nat.blt_eq.mp hc.2)))
def rAddP (X : Cx) : R2 := fun x y H Q => rI0 (fun i j => .int (i + j)) x y H Q ∨ (∃ i j, x = .str i ∧ y = .str j ∧ i.length + j.length ≤ sizeLine ∧ Q (.str (i ++ j)) H) ∨ rCatA X.K x y H Q ∨ rCat x y H Q
theorem op_addP : OpR X (binaryOp .Add) (rAddP X) := op_add.or (op_add_str.or (op_catA.or op_cat))
def rMulP (X : Cx) : R2 := fun x y H Q => rI (fun i j => mulB i j = true) (fun i j => .int (i * j)) x y H Q ∨ rRep x y H Q ∨ rRepT X.K x y H Q
theorem op_mulA : OpR X (binaryOp .Mult) (rMulP X) := op_mulP.or (op_rep.or op_repT)
def rIxP (X : Cx) : R2 := fun x y H Q => rIxL X.K x y H Q ∨ rIxT X.K x y H Q
theorem ix_P : IxR X (rIxP X) := ix_list.or ix_tup
/-- == and != of data -/
def rEqP (X : Cx) (g : Bool → Bool) : R2 := fun x y H Q => ∃ d e, Dp X.K H x d ∧ Dp X.K H y e ∧ d.plain = true ∧ e.plain = true ∧ d.depth ≤ 60 ∧ Q (.bl (g (PyData.eqv d e))) H
theorem op_eqP {k : Nat} (hr : Room k X.A) : OpR X (compareOp .Eq) (rEqP X fun b => b) := by
  intro pins s σ H x y v u Q I rx ry h
  obtain ⟨d, e, hd, he, pd, pe, dl, q⟩ := h
  obtain ⟨as, r1⟩ := Dp.reads I d x v hd rx
  obtain ⟨bs, r2⟩ := Dp.reads I e y u he ry
  have hu := hr.units
  exact SeqAt.eq_plain r1 r2 pd pe (by omega) ⟨.bl _, H, I, rfl, q⟩
theorem op_neP {k : Nat} (hr : Room k X.A) : OpR X (compareOp .NotEq) (rEqP X fun b => !b) := by
  intro pins s σ H x y v u Q I rx ry h
  obtain ⟨d, e, hd, he, pd, pe, dl, q⟩ := h
  obtain ⟨as, r1⟩ := Dp.reads I d x v hd rx
  obtain ⟨bs, r2⟩ := Dp.reads I e y u he ry
  have hu := hr.units
  exact SeqAt.ne_plain r1 r2 pd pe (by omega) ⟨.bl _, H, I, rfl, q⟩
/-- in, not in, of data in a list or a tuple -/
def rInP (X : Cx) (g : Bool → Bool) : R2 := fun x y H Q => ∃ d ds, Dp X.K H x d ∧ (Dp X.K H y (.list ds) ∨ Dp X.K H y (.tuple ds)) ∧ d.plain = true ∧ PyData.plainAll ds = true ∧ d.depth ≤ 60 ∧ Q (.bl (g (ds.any fun z => PyData.eqv z d))) H
theorem op_inP {k : Nat} (hr : Room k X.A) : OpR X (compareOp .In) (rInP X fun b => b) := by
  intro pins s σ H x y v u Q I rx ry h
  obtain ⟨d, e, hd, he, pd, pe, dl, q⟩ := h
  obtain ⟨as, r1⟩ := Dp.reads I d x v hd rx
  have hu : X.A.units + 200 < cLine := by
    have z := hr.un
    omega
  rcases he with he | he
  · obtain ⟨bs, r2⟩ := Dp.reads I _ y u he ry
    exact SeqAt.in_list_data r2 r1 pe pd (by omega) ⟨.bl _, H, I, rfl, q⟩
  · obtain ⟨bs, r2⟩ := Dp.reads I _ y u he ry
    exact SeqAt.in_tuple_data r2 r1 pe pd (by omega) ⟨.bl _, H, I, rfl, q⟩
theorem op_ninP {k : Nat} (hr : Room k X.A) : OpR X (compareOp .NotIn) (rInP X fun b => !b) := by
  intro pins s σ H x y v u Q I rx ry h
  obtain ⟨d, e, hd, he, pd, pe, dl, q⟩ := h
  obtain ⟨as, r1⟩ := Dp.reads I d x v hd rx
  have hu : X.A.units + 200 < cLine := by
    have z := hr.un
    omega
  rcases he with he | he
  · obtain ⟨bs, r2⟩ := Dp.reads I _ y u he ry
    exact SeqAt.notIn_list_data r2 r1 pe pd (by omega) ⟨.bl _, H, I, rfl, q⟩
  · obtain ⟨bs, r2⟩ := Dp.reads I _ y u he ry
    exact SeqAt.notIn_tuple_data r2 r1 pe pd (by omega) ⟨.bl _, H, I, rfl, q⟩
end
section
variable {S : Sx} {k : Nat} {f : Fm}
theorem Post.okv {α : Type} {W : WX} {σ : Sg} {F H : Hp} {good : Hp → Hp → Hp → V → α → Prop} {a : α} {Q : VK} (h : Post S W σ F H good (.ok a) Q) (e : Ext F H) {v : V} (g : good H F H v a) : Q v H := h v F H (Grow.refl e) g
theorem Post.new {W : WX} {σ : Sg} {F H : Hp} {l : List Dv} {Q : VK} (h : Post S W σ F H (gS S) (.ok (.val (.tup l))) Q) (e : Ext F H) {vs : List V} (r : RpL S F vs l) {p : Addr} (hp : H p = none) : Q (.ref p) (upd H p (.tup vs)) :=
  h _ _ _ (Grow.new e hp) (Rp.tup upd_same (r.mono (Evl.Ex.new (Evl.fresh_back e hp))))
theorem Post.newD {W : WX} {σ : Sg} {F H : Hp} {l : List Dv} {Q : VK} (h : Post S W σ F H (gD S) (.ok (.tup l)) Q) (e : Ext F H) {vs : List V} (r : RpL S F vs l) {p : Addr} (hp : H p = none) : Q (.ref p) (upd H p (.tup vs)) :=
  h _ _ _ (Grow.new e hp) (Rp.tup upd_same (r.mono (Evl.Ex.new (Evl.fresh_back e hp))))
theorem Post.mine {W : WX} {σ : Sg} {F H : Hp} {l : List Dv} {Q : VK} (h : Post S W σ F H (gS S) (.ok (.own l)) Q) (e : Ext F H) {vs : List V} (r : RpL S F vs l) {p : Addr} (hp : H p = none) : Q (.ref p) (upd H p (.lst vs)) :=
  h _ _ _ (Grow.mine e hp) ⟨p, vs, rfl, hp, Evl.fresh_back e hp, upd_same, r⟩
theorem Post.mineL {W : WX} {σ : Sg} {F H : Hp} {l : List Dv} {Q : VK} (h : Post S W σ F H (gL S) (.ok l) Q) (e : Ext F H) {vs : List V} (r : RpL S F vs l) {p : Addr} (hp : H p = none) : Q (.ref p) (upd H p (.lst vs)) :=
  h _ _ _ (Grow.mine e hp) ⟨p, vs, rfl, hp, Evl.fresh_back e hp, upd_same, r⟩
theorem op2_add : Op2 S k f (gS S) (rAddP) addD := by
  intro X W σ F H v u x y Q fit ex rx ry hp
  unfold addD at hp
  split at hp
  · rw [rx.intAt, ry.intAt]
    exact .inl ⟨_, _, rfl, rfl, hp.okv ex (.int _)⟩
  · rw [rx.strAt, ry.strAt]
    split at hp
    · rename_i h
      exact .inr (.inl ⟨_, _, rfl, rfl, lineP_le h, hp.okv ex (.str _)⟩)
    · exact hp.elim
  · split at hp
    · rename_i h
      obtain ⟨p, vs, rfl, fp, hpp, r1⟩ := rx.tupAt ex
      obtain ⟨q, us, rfl, fq, hqq, r2⟩ := ry.tupAt ex
      refine .inr (.inr (.inl ⟨p, q, vs, us, rfl, rfl, SqT.of hpp, SqT.of hqq, lineP_le (by rw [r1.length, r2.length]; exact h), fun e => ?_, fun _ e => ?_, fun _ _ w hw => ?_⟩))
      · subst e
        cases r1
        exact hp.okv ex (.tup fq r2)
      · subst e
        cases r2
        rw [List.append_nil] at hp
        exact hp.okv ex (.tup fp r1)
      · exact hp.new ex (r1.app r2) hw
    · exact hp.elim
  · split at hp
    · rename_i h
      obtain ⟨p, vs, rfl, hpp, r1⟩ := rx.lstAt ex
      obtain ⟨q, us, rfl, hqq, r2⟩ := ry.lstAt ex
      exact .inr (.inr (.inr ⟨p, q, vs, us, rfl, rfl, hpp, hqq, lineP_le (by rw [r1.length, r2.length]; exact h), fun w hw => hp.mine ex (r1.app r2) hw⟩))
    · exact hp.elim
  · exact hp.elim
theorem RpL.rep {F : Hp} {vs : List V} {l : List Dv} (r : RpL S F vs l) : ∀ n : Nat, RpL S F (List.replicate n vs).flatten (List.replicate n l).flatten
  | 0 => .nil
  | n + 1 => by
    rw [List.replicate_succ, List.replicate_succ, List.flatten_cons, List.flatten_cons]
    exact r.app (RpL.rep r n)
theorem op2_mul : Op2 S k f (gS S) (rMulP) mulD := by
  intro X W σ F H v u x y Q fit ex rx ry hp
  unfold mulD at hp
  split at hp
  · rw [rx.intAt, ry.intAt]
    split at hp
    · exact .inl ⟨_, _, rfl, rfl, by assumption, hp.okv ex (.int _)⟩
    · exact hp.elim
  · split at hp
    · rename_i l j h
      obtain ⟨p, vs, rfl, hpp, r1⟩ := rx.lstAt ex
      rw [ry.intAt]
      refine .inr (.inl ⟨p, j, vs, rfl, rfl, hpp, by omega, by omega, ?_, fun w hw => hp.mine ex (r1.rep _) hw⟩)
      rw [r1.length]
      have a1 : l.length * j.toNat ≤ 1000 * 1000 := Nat.mul_le_mul h.2.2 (by omega)
      exact lineP_le a1
    · exact hp.elim
  · split at hp
    · rename_i l j h
      obtain ⟨p, vs, rfl, fp, hpp, r1⟩ := rx.tupAt ex
      rw [ry.intAt]
      refine .inr (.inr ⟨p, j, vs, rfl, rfl, SqT.of hpp, fun e => ?_, h.2.1, h.2.2.1, by rw [r1.length]; exact h.2.2.2, fun w hw => hp.new ex (r1.rep _) hw⟩)
      subst e
      cases r1
      exact h.1 rfl
    · exact hp.elim
  · exact hp.elim
theorem op2_sub : Op2 S k f (gD S) (fun _ => rI0 fun i j => .int (i - j)) subD := by
  intro X W σ F H v u x y Q fit ex rx ry hp
  unfold subD at hp
  split at hp
  · rw [rx.intAt, ry.intAt]
    exact ⟨_, _, rfl, rfl, hp.okv ex (.int _)⟩
  · exact hp.elim
theorem op2_fdiv : Op2 S k f (gD S) (fun _ => rI (fun _ j => divB j = true) fun i j => .int (i.fdiv j)) fdivD := by
  intro X W σ F H v u x y Q fit ex rx ry hp
  unfold fdivD at hp
  split at hp
  · rw [rx.intAt, ry.intAt]
    split at hp
    · exact ⟨_, _, rfl, rfl, by assumption, hp.okv ex (.int _)⟩
    · exact hp.elim
  · exact hp.elim
theorem op2_mod : Op2 S k f (gD S) (fun _ => rI (fun _ j => j ≠ 0) fun i j => .int (i.fmod j)) modD := by
  intro X W σ F H v u x y Q fit ex rx ry hp
  unfold modD at hp
  split at hp
  · rw [rx.intAt, ry.intAt]
    split at hp
    · exact ⟨_, _, rfl, rfl, by assumption, hp.okv ex (.int _)⟩
    · exact hp.elim
  · exact hp.elim
theorem op2_ix : Op2 S k f (gD S) (rIxP) ixD := by
  intro X W σ F H v u x y Q fit ex rx ry hp
  have at_ : ∀ {l : List Dv} {vs : List V} {i : Int} {d : Dv}, RpL S F vs l → atI l i = some d → ∃ w, atI vs i = some w ∧ Rp S F w d := fun {l vs i d} r h => by
    unfold atI at h ⊢
    rw [r.length]
    cases q : ixN l.length i with
    | none => rw [q] at h; cases h
    | some j =>
      rw [q] at h
      exact r.get h
  unfold ixD at hp
  split at hp
  · split at hp
    · rename_i e
      obtain ⟨p, vs, rfl, hpp, r1⟩ := rx.lstAt ex
      rw [ry.intAt]
      obtain ⟨w, a, b⟩ := at_ r1 e
      exact .inl ⟨p, vs, _, w, rfl, rfl, SqL.of hpp, a, hp.okv ex b⟩
    · exact hp.elim
  · split at hp
    · rename_i e
      obtain ⟨p, vs, rfl, fp, hpp, r1⟩ := rx.tupAt ex
      rw [ry.intAt]
      obtain ⟨w, a, b⟩ := at_ r1 e
      exact .inr ⟨p, vs, _, w, rfl, rfl, SqT.of hpp, a, hp.okv ex b⟩
    · exact hp.elim
  · exact hp.elim
/-- a comparison's answer, as a datum -/
def gT : Hp → Hp → Hp → V → Bool → Prop := fun _ _ _ v b => v = .bl b
theorem anti_T : Anti gT := fun _ _ _ _ _ _ _ h => h
theorem op2_I {g : Int → Int → Bool} {fd : Dv → Dv → R Bool} (h : ∀ x y, fd x y = match x, y with
    | .int i, .int j => .ok (g i j)
    | _, _ => .stuck) : Op2 S k f gT (fun _ => rI0 fun i j => .bl (g i j)) fd := by
  intro X W σ F H v u x y Q fit ex rx ry hp
  rw [h x y] at hp
  split at hp
  · rw [rx.intAt, ry.intAt]
    exact ⟨_, _, rfl, rfl, hp.okv ex rfl⟩
  · exact hp.elim
theorem eqD_ok {x y : Dv} {b : Bool} (h : eqD x y = .ok b) : okv 12 x = true ∧ okv 12 y = true ∧ b = eqv 12 x y := by
  unfold eqD at h
  split at h
  · cases h
    exact ⟨rfl, rfl, rfl⟩
  · split at h
    · rename_i q
      cases h
      exact ⟨q.1, q.2, rfl⟩
    · cases h
theorem eqD_noerr {x y : Dv} : ∀ n, eqD x y ≠ .err n := fun n h => by
  unfold eqD at h
  split at h
  · cases h
  · split at h <;> cases h
theorem op2_eqG {g : Bool → Bool} {fd : Dv → Dv → R Bool} (h : ∀ x y, fd x y = (eqD x y).map g) : Op2 S k f gT (fun X => rEqP X g) fd := by
  intro X W σ F H v u x y Q fit ex rx ry hp
  rw [h x y] at hp
  cases q : eqD x y with
  | ok b =>
    rw [q] at hp
    obtain ⟨a1, a2, rfl⟩ := eqD_ok q
    obtain ⟨p1, p2⟩ := okv_py x 12 a1
    obtain ⟨p3, p4⟩ := okv_py y 12 a2
    refine ⟨py x, py y, rx.dp ex a1, ry.dp ex a2, p1, p3, by omega, ?_⟩
    rw [eqv_py x y 12 a1 a2]
    exact hp.okv ex rfl
  | err n => exact absurd q (eqD_noerr n)
  | stuck => rw [q] at hp; exact hp.elim
theorem op2_eq : Op2 S k f gT (fun X => rEqP X fun b => b) eqD := op2_eqG fun x y => R.map_id.symm
theorem op2_ne : Op2 S k f gT (fun X => rEqP X fun b => !b) neD := op2_eqG fun x y => rfl
theorem any_py {d : Dv} (hd : okv 12 d = true) : ∀ {l : List Dv}, l.all (okv 12) = true → ((pyL l).any fun z => PyData.eqv z (py d)) = l.any fun z => eqv 12 z d
  | [], _ => by simp [pyL]
  | x :: xs, h => by
    rw [List.all_cons, Bool.and_eq_true] at h
    simp only [pyL, List.any_cons]
    rw [eqv_py x d 12 h.1 hd, any_py hd h.2]
theorem op2_inG {g : Bool → Bool} {fd : Dv → Dv → R Bool} (h : ∀ x y, fd x y = (inD x y).map g) : Op2 S k f gT (fun X => rInP X g) fd := by
  intro X W σ F H v u x y Q fit ex rx ry hp
  rw [h x y] at hp
  unfold inD at hp
  cases q : itemsD y with
  | ok l =>
    rw [q] at hp
    simp only [R.bind] at hp
    split at hp
    · rename_i a
      obtain ⟨p1, p2⟩ := okv_py x 12 a.1
      obtain ⟨p3, p4⟩ := okv_pyL l 12 a.2
      refine ⟨py x, pyL l, rx.dp ex a.1, ?_, p1, p3, by omega, ?_⟩
      · cases y with
        | lst m =>
          cases q
          exact .inl (by have z := RpB.dp (K := X.K) ex (n := 13) (d := .lst l) (by simpa [okv] using a.2) ry; simpa [py] using z)
        | tup m =>
          cases q
          exact .inr (by have z := RpB.dp (K := X.K) ex (n := 13) (d := .tup l) (by simpa [okv] using a.2) ry; simpa [py] using z)
        | _ => cases q
      · rw [any_py a.1 a.2]
        exact hp.okv ex rfl
    · exact hp.elim
  | err n => cases y <;> cases q
  | stuck => rw [q] at hp; exact hp.elim
theorem op2_in : Op2 S k f gT (fun X => rInP X fun b => b) inD := op2_inG fun x y => R.map_id.symm
theorem op2_nin : Op2 S k f gT (fun X => rInP X fun b => !b) ninD := op2_inG fun x y => rfl
end
end Py
namespace Py
open PySem PySem.Spec PyProof.Rows L2

/-! ### expressions by operators -/
section
variable {S : Sx} {k : Nat} {f : Fm} {pos : Pos} {a b c : Expr} {ma mb mc : En → R Dv}
theorem jx_add (ja : JB S k f a ma) (jb : JB S k f b mb) : JX S k f (.BinOp a .Add b pos) (fun env => (ma env).bind fun x => (mb env).bind fun y => addD x y) := j_bin anti_S (fun X _ => op_addP) op2_add ja jb
theorem jx_mul (ja : JB S k f a ma) (jb : JB S k f b mb) : JX S k f (.BinOp a .Mult b pos) (fun env => (ma env).bind fun x => (mb env).bind fun y => mulD x y) := j_bin anti_S (fun X _ => op_mulA) op2_mul ja jb
theorem jd_sub (ja : JB S k f a ma) (jb : JB S k f b mb) : JD S k f (.BinOp a .Sub b pos) (fun env => (ma env).bind fun x => (mb env).bind fun y => subD x y) := j_bin anti_D (fun X _ => op_sub) op2_sub ja jb
theorem jd_fdiv (ja : JB S k f a ma) (jb : JB S k f b mb) : JD S k f (.BinOp a .FloorDiv b pos) (fun env => (ma env).bind fun x => (mb env).bind fun y => fdivD x y) := j_bin anti_D (fun X _ => op_fdivP) op2_fdiv ja jb
theorem jd_mod (ja : JB S k f a ma) (jb : JB S k f b mb) : JD S k f (.BinOp a .Mod b pos) (fun env => (ma env).bind fun x => (mb env).bind fun y => modD x y) := j_bin anti_D (fun X _ => op_modN) op2_mod ja jb
theorem jd_ix (ja : JB S k f a ma) (jb : JB S k f b mb) (h : PlainIx b := by exact fun _ _ => rfl) : JD S k f (.Subscript a b pos) (fun env => (ma env).bind fun x => (mb env).bind fun y => ixD x y) := j_ix anti_D (fun X _ => ix_P) op2_ix h ja jb
/-- comparisons: their reading, as Bool -/
abbrev JC (S : Sx) (k : Nat) (f : Fm) := J S k f gT
theorem jd_j {e : Expr} {m : En → R Bool} (h : JC S k f e m) : JD S k f e (fun env => (m env).map .bl) := h.see fun H F' H' v b F g e => ⟨F', g, by rw [show v = .bl b from e]; exact .bl b⟩
/-- which comparison -/
inductive CmpK where
  | lt | le | gt | ge | eq | ne | inn | nin
def CmpK.op : CmpK → CmpOp
  | .lt => .Lt
  | .le => .LtE
  | .gt => .Gt
  | .ge => .GtE
  | .eq => .Eq
  | .ne => .NotEq
  | .inn => .In
  | .nin => .NotIn
def CmpK.fd : CmpK → Dv → Dv → R Bool
  | .lt => ltD
  | .le => leD
  | .gt => gtD
  | .ge => geD
  | .eq => eqD
  | .ne => neD
  | .inn => inD
  | .nin => ninD
def CmpK.r : CmpK → Cx → R2
  | .lt => fun _ => rI0 fun i j => .bl (decide (i < j))
  | .le => fun _ => rI0 fun i j => .bl (decide (i ≤ j))
  | .gt => fun _ => rI0 fun i j => .bl (decide (j < i))
  | .ge => fun _ => rI0 fun i j => .bl (decide (j ≤ i))
  | .eq => fun X => rEqP X fun b => b
  | .ne => fun X => rEqP X fun b => !b
  | .inn => fun X => rInP X fun b => b
  | .nin => fun X => rInP X fun b => !b
theorem CmpK.opR (o : CmpK) {X : Cx} (fit : Fit S k f X) : OpR X (compareOp o.op) (o.r X) := by
  cases o with
  | lt => exact op_lt
  | le => exact op_le
  | gt => exact op_gt
  | ge => exact op_ge
  | eq => exact op_eqP fit.room
  | ne => exact op_neP fit.room
  | inn => exact op_inP fit.room
  | nin => exact op_ninP fit.room
theorem CmpK.op2 (o : CmpK) : Op2 S k f gT o.r o.fd := by
  cases o with
  | lt => exact op2_I fun x y => by unfold CmpK.fd ltD; rfl
  | le => exact op2_I fun x y => by unfold CmpK.fd leD; rfl
  | gt => exact op2_I fun x y => by unfold CmpK.fd gtD; rfl
  | ge => exact op2_I fun x y => by unfold CmpK.fd geD; rfl
  | eq => exact op2_eq
  | ne => exact op2_ne
  | inn => exact op2_in
  | nin => exact op2_nin
theorem jc_cmp (o : CmpK) (ja : JB S k f a ma) (jb : JB S k f b mb) (h : behindInMarks o.op b = false := by rfl) :
    JC S k f (.Compare a [o.op] [b] pos) (fun env => (ma env).bind fun x => (mb env).bind fun y => o.fd x y) := j_cmp anti_T (fun X fit => o.opR fit) o.op2 h ja jb
/-- a op1 b op2 c -/
def chain2 (o p : CmpK) (ma mb mc : En → R Dv) : En → R Bool := fun env => (ma env).bind fun x => (mb env).bind fun y => (o.fd x y).bind fun t => if t = true then (mc env).bind fun z => p.fd y z else .ok false
theorem chain2_run (o p : CmpK) (ja : JB S k f a ma) (jb : JB S k f b mb) (jc : JB S k f c mc) {X : Cx} {W : WX} (fit : Fit S k f X) (tk : Takes X W) {F0 H0 F H : Hp} {σ : Sg} {env : En} {Q : VK} (eo : EnvOk S F0 H0 F H σ env)
    (hp : Post S W σ F H gT (chain2 o p ma mb mc env) Q) : tChain (o.r X) (p.r X) (rd X a) (rd X b) (rd X c) σ H Q := by
  refine ja.go fit tk eo rfl hp anti_T fun x v F1 H1 g1 r1 eo1 hp1 => jb.go fit tk eo1 rfl hp1 anti_T fun y u F2 H2 g2 r2 eo2 hp2 => ?_
  have g2' := RpB.grow r1 g2
  refine o.op2 X W σ F2 H2 v u x y _ fit eo2.g.fh g2' r2 ?_
  cases q : o.fd x y with
  | err n => rw [q] at hp2; exact hp2
  | stuck => rw [q] at hp2; exact hp2
  | ok t =>
    rw [q] at hp2
    simp only [R.bind] at hp2
    intro v3 F3 H3 g3 e3
    have e3' : v3 = .bl t := e3
    refine ⟨t, e3', ?_⟩
    have hp3 := hp2.grow anti_T g3
    cases t with
    | true =>
      simp only [if_true] at hp3 ⊢
      refine jc.go fit tk (eo2.grow g3) rfl hp3 anti_T fun z w F4 H4 g4 r4 eo4 hp4 => ?_
      exact p.op2 X W σ F4 H4 u w y z Q fit eo4.g.fh ((r2.grow g3).grow g4) r4 hp4
    | false =>
      simp only [Bool.false_eq_true, if_false] at hp3 ⊢
      exact hp3.okv (g3.fh) rfl
theorem jc_chain (o p : CmpK) (ja : JB S k f a ma) (jb : JB S k f b mb) (jc : JB S k f c mc) (h : lastMarks [o.op, p.op] [b, c] = false := by with_unfolding_all rfl) :
    JC S k f (.Compare a [o.op, p.op] [b, c] pos) (chain2 o p ma mb mc) := j_pe fun X W fit tk =>
  ⟨_, pe_chain (o.opR fit) (p.opR fit) pe_rd pe_rd pe_rd h, fun F0 H0 F H σ env Q eo hp => chain2_run o p ja jb jc fit tk eo hp⟩
/-- is None, is not None -/
def isN : Dv → Bool
  | .non => true
  | _ => false
theorem isN_of {F H : Hp} {v : V} {d : Dv} (r : RpB S F H v d) : decide (v = .non) = isN d := by
  cases r with
  | sh r => cases r <;> simp [isN]
  | pv _ _ _ => simp [isN]
theorem jc_isN {j : Nat} {p2 : Pos} (ja : JB S k f a ma) : JC S k f (.Compare a [.Is] [.Constant .none j p2] pos) (fun env => (ma env).bind fun x => .ok (isN x)) := j_pe fun X W fit tk =>
  ⟨_, pe_cmp (pc_isN pe_rd), fun F0 H0 F H σ env Q eo hp => ja.go fit tk eo rfl hp anti_T fun x v F1 H1 g1 r1 eo1 hp1 => by
    rw [isN_of r1]
    exact hp1.okv eo1.g.fh rfl⟩
theorem jc_notN {j : Nat} {p2 : Pos} (ja : JB S k f a ma) : JC S k f (.Compare a [.IsNot] [.Constant .none j p2] pos) (fun env => (ma env).bind fun x => .ok (!isN x)) := j_pe fun X W fit tk =>
  ⟨_, pe_cmp (pc_notN pe_rd), fun F0 H0 F H σ env Q eo hp => ja.go fit tk eo rfl hp anti_T fun x v F1 H1 g1 r1 eo1 hp1 => by
    rw [isN_of r1]
    exact hp1.okv eo1.g.fh rfl⟩
def negD : Dv → R Dv
  | .int i => .ok (.int (-i))
  | _ => .stuck
theorem jd_neg (ja : JB S k f a ma) : JD S k f (.UnaryOp .USub a pos) (fun env => (ma env).bind negD) := j_pe fun X W fit tk =>
  ⟨_, pe_un un_neg pe_rd, fun F0 H0 F H σ env Q eo hp => ja.go fit tk eo rfl hp anti_D fun x v F1 H1 g1 r1 eo1 hp1 => by
    cases x with
    | int i =>
      rw [r1.intAt]
      exact ⟨i, rfl, hp1.okv eo1.g.fh (.int _)⟩
    | _ => exact hp1.elim⟩
end

/-! ### tests -/
section
variable {S : Sx} {k : Nat} {f : Fm} {pos : Pos} {a b c e : Expr} {rest : List Expr}
def PostT (S : Sx) (W : WX) (σ : Sg) (F H : Hp) (r : R Bool) (Q : Bool → Hp → Prop) : Prop := match r with
  | .ok b => ∀ F' H', Grow F H F' H' → Q b H'
  | .err x => ∀ c d F' H', Grow F H F' H' → ExcR S x c d → W c d σ H'
  | .stuck => False
def JT (S : Sx) (k : Nat) (f : Fm) (e : Expr) (m : En → R Bool) : Prop :=
  ∀ (X : Cx) (W : WX), Fit S k f X → Takes X W → ∀ (pins : List (Addr × Obj)) (s : Shared) (F0 H0 F H : Hp) (σ : Sg) (env : En) (Q : Bool → Hp → Prop), EnvOk S F0 H0 F H σ env → Inv X pins σ H s →
    PostT S W σ F H (m env) Q → wpAny (model X.prog X.w) X.A (isTrue e X.env (eval e X.env)) (TP X pins σ Q) X.xe s
def JW (S : Sx) (k : Nat) (f : Fm) (e : Expr) (m : En → R Bool) : Prop :=
  ∀ (X : Cx) (W : WX), Fit S k f X → Takes X W → ∀ (wh : Sem Value) (pins : List (Addr × Obj)) (s : Shared) (F0 H0 F H : Hp) (σ : Sg) (env : En) (Q : Bool → Hp → Prop), EnvOk S F0 H0 F H σ env → Inv X pins σ H s →
    PostT S W σ F H (m env) Q → wpAny (model X.prog X.w) X.A (isTrue e X.env wh) (TP X pins σ Q) X.xe s
def rdt (X : Cx) (e : Expr) : TT := fun σ H Q => ∀ (pins : List (Addr × Obj)) (s : Shared), Inv X pins σ H s → wpAny (model X.prog X.w) X.A (isTrue e X.env (eval e X.env)) (TP X pins σ Q) X.xe s
def rdw (X : Cx) (e : Expr) : TT := fun σ H Q => ∀ (wh : Sem Value) (pins : List (Addr × Obj)) (s : Shared), Inv X pins σ H s → wpAny (model X.prog X.w) X.A (isTrue e X.env wh) (TP X pins σ Q) X.xe s
theorem pt_rd {X : Cx} : PT X e (rdt X e) := ⟨fun pins s _ _ _ I h => h pins s I⟩
theorem pw_rd {X : Cx} : PW X e (rdw X e) := ⟨fun wh pins s _ _ _ I h => h wh pins s I⟩
variable {W : WX} {σ : Sg} {F H F1 H1 F0 H0 : Hp} {env : En} {X : Cx} {Qt : Bool → Hp → Prop} {m : En → R Bool} {ma mb mc : En → R Dv} {ta tb : En → R Bool}
theorem PostT.grow {r : R Bool} (h : PostT S W σ F H r Qt) (g : Grow F H F1 H1) : PostT S W σ F1 H1 r Qt := by
  cases r with
  | ok b => exact fun F' H' g' => h F' H' (g.trans g')
  | err x => exact fun c d F' H' g' ex => h c d F' H' (g.trans g') ex
  | stuck => exact h
theorem jt_pt (h : ∀ (X : Cx) (W : WX), Fit S k f X → Takes X W → ∃ t, PT X e t ∧ ∀ (F0 H0 F H : Hp) (σ : Sg) (env : En) (Q : Bool → Hp → Prop), EnvOk S F0 H0 F H σ env → PostT S W σ F H (m env) Q → t σ H Q) : JT S k f e m :=
  fun X W fit tk pins s F0 H0 F H σ env Q eo I hp => by
    obtain ⟨t, p, ht⟩ := h X W fit tk
    exact p.run pins s σ H Q I (ht F0 H0 F H σ env Q eo hp)
theorem jw_pw (h : ∀ (X : Cx) (W : WX), Fit S k f X → Takes X W → ∃ t, PW X e t ∧ ∀ (F0 H0 F H : Hp) (σ : Sg) (env : En) (Q : Bool → Hp → Prop), EnvOk S F0 H0 F H σ env → PostT S W σ F H (m env) Q → t σ H Q) : JW S k f e m :=
  fun X W fit tk wh pins s F0 H0 F H σ env Q eo I hp => by
    obtain ⟨t, p, ht⟩ := h X W fit tk
    exact p.run wh pins s σ H Q I (ht F0 H0 F H σ env Q eo hp)
theorem jt_w (h : JW S k f e m) : JT S k f e m := fun X W fit tk pins s F0 H0 F H σ env Q eo I hp => h X W fit tk _ pins s F0 H0 F H σ env Q eo I hp
/-- a part runs first -/
theorem JT.go {g : Bool → R Bool} (ja : JT S k f a ta) (fit : Fit S k f X) (tk : Takes X W) (eo : EnvOk S F0 H0 F H σ env) {r : R Bool} (hr : r = (ta env).bind g) (hp : PostT S W σ F H r Qt) {Q' : Bool → Hp → Prop}
    (h : ∀ x F1 H1, Grow F H F1 H1 → EnvOk S F0 H0 F1 H1 σ env → PostT S W σ F1 H1 (g x) Qt → Q' x H1) : rdt X a σ H Q' := fun pins s I => by
  refine ja X W fit tk pins s F0 H0 F H σ env Q' eo I ?_
  rw [hr] at hp
  cases q : ta env with
  | ok x =>
    rw [q] at hp
    exact fun F' H' g' => h x F' H' g' (eo.grow g') (PostT.grow hp g')
  | err x =>
    rw [q] at hp
    exact hp
  | stuck =>
    rw [q] at hp
    exact hp
/-- an expression's part ahead of a test -/
theorem J.goT {α : Type} {ga : Hp → Hp → Hp → V → α → Prop} {me : En → R α} {g : α → R Bool} (ja : J S k f ga a me) (fit : Fit S k f X) (tk : Takes X W) (eo : EnvOk S F0 H0 F H σ env) {r : R Bool} (hr : r = (me env).bind g) (hp : PostT S W σ F H r Qt) {Q' : VK}
    (h : ∀ x v F1 H1, Grow F H F1 H1 → ga H F1 H1 v x → EnvOk S F0 H0 F1 H1 σ env → PostT S W σ F1 H1 (g x) Qt → Q' v H1) : rd X a σ H Q' := fun pins s I => by
  refine ja X W fit tk pins s F0 H0 F H σ env Q' eo I ?_
  rw [hr] at hp
  cases q : me env with
  | ok x =>
    rw [q] at hp
    exact fun v F' H' g' gd => h x v F' H' g' gd (eo.grow g') (PostT.grow hp g')
  | err x =>
    rw [q] at hp
    exact hp
  | stuck =>
    rw [q] at hp
    exact hp
theorem PostT.post {r : R Bool} (h : PostT S W σ F H r Qt) : Post S W σ F H gT r (fun v H' => ∃ k, v = .bl k ∧ Qt k H') := by
  cases r with
  | ok b => exact fun v F' H' g e => ⟨b, e, h F' H' g⟩
  | err x => exact h
  | stuck => exact h
theorem jt_cmp (o : CmpK) (ja : JB S k f a ma) (jb : JB S k f b mb) (h : behindInMarks o.op b = false := by rfl) :
    JT S k f (.Compare a [o.op] [b] pos) (fun env => (ma env).bind fun x => (mb env).bind fun y => o.fd x y) := jt_pt fun X W fit tk =>
  ⟨_, pt_cmpR (o.opR fit) pe_rd pe_rd h, fun F0 H0 F H σ env Q eo hp => op2_run anti_T o.op2 ja jb fit tk eo hp.post⟩
theorem jt_chain (o p : CmpK) (ja : JB S k f a ma) (jb : JB S k f b mb) (jc : JB S k f c mc) (h : lastMarks [o.op, p.op] [b, c] = false := by with_unfolding_all rfl) :
    JT S k f (.Compare a [o.op, p.op] [b, c] pos) (chain2 o p ma mb mc) := jt_pt fun X W fit tk =>
  ⟨_, pt_chain (o.opR fit) (p.opR fit) pe_rd pe_rd pe_rd h, fun F0 H0 F H σ env Q eo hp => chain2_run o p ja jb jc fit tk eo hp.post⟩
theorem jt_isN {j : Nat} {p2 : Pos} (ja : JB S k f a ma) : JT S k f (.Compare a [.Is] [.Constant .none j p2] pos) (fun env => (ma env).bind fun x => .ok (isN x)) := jt_pt fun X W fit tk =>
  ⟨_, pt_cmp (pc_isN pe_rd), fun F0 H0 F H σ env Q eo hp => ja.goT fit tk eo rfl hp fun x v F1 H1 g1 r1 eo1 hp1 => ⟨_, rfl, by
    rw [isN_of r1]
    exact hp1 F1 H1 (Grow.refl eo1.g.fh)⟩⟩
theorem jt_notN {j : Nat} {p2 : Pos} (ja : JB S k f a ma) : JT S k f (.Compare a [.IsNot] [.Constant .none j p2] pos) (fun env => (ma env).bind fun x => .ok (!isN x)) := jt_pt fun X W fit tk =>
  ⟨_, pt_cmp (pc_notN pe_rd), fun F0 H0 F H σ env Q eo hp => ja.goT fit tk eo rfl hp fun x v F1 H1 g1 r1 eo1 hp1 => ⟨_, rfl, by
    rw [isN_of r1]
    exact hp1 F1 H1 (Grow.refl eo1.g.fh)⟩⟩
def andM (ta tb : En → R Bool) : En → R Bool := fun env => (ta env).bind fun x => if x = true then tb env else .ok false
def orM (ta tb : En → R Bool) : En → R Bool := fun env => (ta env).bind fun x => if x = true then .ok true else tb env
def notM (ta : En → R Bool) : En → R Bool := fun env => (ta env).bind fun x => .ok (!x)
theorem jw_and1 (ja : JT S k f a ta) : JW S k f (.BoolOp .And [a] pos) ta := jw_pw fun X W fit tk => ⟨_, pw_and1 pt_rd, fun F0 H0 F H σ env Q eo hp pins s I => ja X W fit tk pins s F0 H0 F H σ env Q eo I hp⟩
theorem jw_or1 (ja : JT S k f a ta) : JW S k f (.BoolOp .Or [a] pos) ta := jw_pw fun X W fit tk => ⟨_, pw_or1 pt_rd, fun F0 H0 F H σ env Q eo hp pins s I => ja X W fit tk pins s F0 H0 F H σ env Q eo I hp⟩
theorem jw_and (ja : JT S k f a ta) (jb : JW S k f (.BoolOp .And (b :: rest) pos) tb) : JW S k f (.BoolOp .And (a :: b :: rest) pos) (andM ta tb) := jw_pw fun X W fit tk =>
  ⟨_, pw_and pt_rd pw_rd, fun F0 H0 F H σ env Q eo hp => ja.go fit tk eo rfl hp fun x F1 H1 g1 eo1 hp1 => by
    cases x with
    | true => exact fun wh pins s I => jb X W fit tk wh pins s F0 H0 F1 H1 σ env Q eo1 I hp1
    | false => exact hp1 F1 H1 (Grow.refl eo1.g.fh)⟩
theorem jw_or (ja : JT S k f a ta) (jb : JW S k f (.BoolOp .Or (b :: rest) pos) tb) : JW S k f (.BoolOp .Or (a :: b :: rest) pos) (orM ta tb) := jw_pw fun X W fit tk =>
  ⟨_, pw_or pt_rd pw_rd, fun F0 H0 F H σ env Q eo hp => ja.go fit tk eo rfl hp fun x F1 H1 g1 eo1 hp1 => by
    cases x with
    | true => exact hp1 F1 H1 (Grow.refl eo1.g.fh)
    | false => exact fun wh pins s I => jb X W fit tk wh pins s F0 H0 F1 H1 σ env Q eo1 I hp1⟩
theorem jt_not (ja : JT S k f a ta) : JT S k f (.UnaryOp .Not a pos) (notM ta) := jt_pt fun X W fit tk =>
  ⟨_, pt_not pt_rd, fun F0 H0 F H σ env Q eo hp => ja.go fit tk eo rfl hp fun x F1 H1 g1 eo1 hp1 => hp1 F1 H1 (Grow.refl eo1.g.fh)⟩
/-- a value's truth -/
def truD : Dv → R Bool
  | .bl b => .ok b
  | .int i => .ok (i != 0)
  | .non => .ok false
  | .lst l => .ok (!l.isEmpty)
  | .tup l => .ok (!l.isEmpty)
  | _ => .stuck
theorem truD_ok {F H : Hp} {v : V} {d : Dv} {b : Bool} {K : PySem.W.Frag} (ex : Ext F H) (r : RpB S F H v d) (h : truD d = .ok b) : TruV K v H b := by
  have em : ∀ {vs : List V} {l : List Dv}, RpL S F vs l → (!l.isEmpty) = !vs.isEmpty := fun r => by cases r <;> rfl
  cases d with
  | bl x => cases h; rw [r.blAt]; rfl
  | int i => cases h; rw [r.intAt]; rfl
  | non => cases h; rw [r.nonAt]; rfl
  | lst l =>
    cases h
    obtain ⟨p, vs, rfl, hp, r1⟩ := r.lstAt ex
    exact .inl ⟨vs, SqL.of hp, em r1⟩
  | tup l =>
    cases h
    obtain ⟨p, vs, rfl, _, hp, r1⟩ := r.tupAt ex
    exact .inr (.inl ⟨vs, SqT.of hp, em r1⟩)
  | _ => cases h
theorem truD_noerr {d : Dv} : ∀ n, truD d ≠ .err n := fun n h => by cases d <;> cases h
theorem jt_val (ja : JB S k f a ma) (he : ∀ env whole, isTrue a env whole = (do let v ← whole; standAt a.pos; holding [v] (truthy v)) := by exact fun _ _ => rfl) : JT S k f a (fun env => (ma env).bind truD) := jt_pt fun X W fit tk =>
  ⟨_, pt_truth pe_rd (he X.env), fun F0 H0 F H σ env Q eo hp => ja.goT fit tk eo rfl hp fun x v F1 H1 g1 r1 eo1 hp1 => by
    cases q : truD x with
    | ok b =>
      rw [q] at hp1
      exact ⟨b, truD_ok eo1.g.fh r1 q, hp1 F1 H1 (Grow.refl eo1.g.fh)⟩
    | err n => exact absurd q (truD_noerr n)
    | stuck => rw [q] at hp1; exact hp1.elim⟩
/-- a test ahead of an expression -/
theorem JT.goE {α : Type} {gb : Hp → Hp → Hp → V → α → Prop} {g : Bool → R α} (ja : JT S k f a ta) (fit : Fit S k f X) (tk : Takes X W) (eo : EnvOk S F0 H0 F H σ env) {r : R α} {Q : VK} (hr : r = (ta env).bind g) (hp : Post S W σ F H gb r Q) (an : Anti gb) {Q' : Bool → Hp → Prop}
    (h : ∀ x F1 H1, Grow F H F1 H1 → EnvOk S F0 H0 F1 H1 σ env → Post S W σ F1 H1 gb (g x) Q → Q' x H1) : rdt X a σ H Q' := fun pins s I => by
  refine ja X W fit tk pins s F0 H0 F H σ env Q' eo I ?_
  rw [hr] at hp
  cases q : ta env with
  | ok x =>
    rw [q] at hp
    exact fun F' H' g' => h x F' H' g' (eo.grow g') (Post.grow an hp g')
  | err x =>
    rw [q] at hp
    exact hp
  | stuck =>
    rw [q] at hp
    exact hp
theorem j_if {α : Type} {good : Hp → Hp → Hp → V → α → Prop} (an : Anti good) {mx my : En → R α} (jt : JT S k f c ta) (ja : J S k f good a mx) (jb : J S k f good b my) :
    J S k f good (.IfExp c a b pos) (fun env => (ta env).bind fun t => if t = true then mx env else my env) := j_pe fun X W fit tk =>
  ⟨_, pe_ifExp pt_rd pe_rd pe_rd, fun F0 H0 F H σ env Q eo hp => jt.goE fit tk eo rfl hp an fun t F1 H1 g1 eo1 hp1 => by
    cases t with
    | true => exact fun pins s I => ja X W fit tk pins s F0 H0 F1 H1 σ env Q eo1 I hp1
    | false => exact fun pins s I => jb X W fit tk pins s F0 H0 F1 H1 σ env Q eo1 I hp1⟩
/-- and, or, not of truth values, as values -/
def blD : Dv → R Bool
  | .bl b => .ok b
  | _ => .stuck
theorem jd_one {op : BoolOp} (ja : JD S k f a ma) : JD S k f (.BoolOp op [a] pos) ma := j_pe fun X W fit tk => ⟨_, pe_one pe_rd, fun F0 H0 F H σ env Q eo hp pins s I => ja X W fit tk pins s F0 H0 F H σ env Q eo I hp⟩
theorem jd_and (ja : JD S k f a ma) (jb : JD S k f (.BoolOp .And (b :: rest) pos) mb) : JD S k f (.BoolOp .And (a :: b :: rest) pos) (fun env => (ma env).bind fun x => (blD x).bind fun t => if t = true then mb env else .ok (.bl false)) := j_pe fun X W fit tk =>
  ⟨_, pe_and pe_rd pe_rd, fun F0 H0 F H σ env Q eo hp => ja.go fit tk eo rfl hp anti_D fun x v F1 H1 g1 r1 eo1 hp1 => by
    cases x with
    | bl t =>
      cases r1
      refine ⟨t, rfl, ?_⟩
      cases t with
      | true => exact fun pins s I => jb X W fit tk pins s F0 H0 F1 H1 σ env Q eo1 I hp1
      | false => exact Post.okv hp1 eo1.g.fh (.bl false)
    | _ => exact hp1.elim⟩
theorem jd_or (ja : JD S k f a ma) (jb : JD S k f (.BoolOp .Or (b :: rest) pos) mb) : JD S k f (.BoolOp .Or (a :: b :: rest) pos) (fun env => (ma env).bind fun x => (blD x).bind fun t => if t = true then .ok (.bl true) else mb env) := j_pe fun X W fit tk =>
  ⟨_, pe_or pe_rd pe_rd, fun F0 H0 F H σ env Q eo hp => ja.go fit tk eo rfl hp anti_D fun x v F1 H1 g1 r1 eo1 hp1 => by
    cases x with
    | bl t =>
      cases r1
      refine ⟨t, rfl, ?_⟩
      cases t with
      | true => exact Post.okv hp1 eo1.g.fh (.bl true)
      | false => exact fun pins s I => jb X W fit tk pins s F0 H0 F1 H1 σ env Q eo1 I hp1
    | _ => exact hp1.elim⟩
theorem jd_not (ja : JD S k f a ma) : JD S k f (.UnaryOp .Not a pos) (fun env => (ma env).bind fun x => (blD x).bind fun t => .ok (.bl (!t))) := j_pe fun X W fit tk =>
  ⟨_, pe_not pe_rd, fun F0 H0 F H σ env Q eo hp => ja.go fit tk eo rfl hp anti_D fun x v F1 H1 g1 r1 eo1 hp1 => by
    cases x with
    | bl t =>
      cases r1
      exact ⟨t, rfl, Post.okv hp1 eo1.g.fh (.bl _)⟩
    | _ => exact hp1.elim⟩
end

/-! ### rows of expressions: arguments, displays -/
section
variable {S : Sx} {k : Nat} {f : Fm} {pos : Pos} {e : Expr} {es : List Expr}
def plainE : Expr → Bool
  | .Starred .. => false
  | _ => true
theorem star_of {e : Expr} (h : plainE e = true) (es : List Expr) (env : Env) : starEach (e :: es) env = (false, eval e env) :: starEach es env := by
  cases e <;> first | rfl | cases h
def PostA (S : Sx) (W : WX) (σ : Sg) (F H : Hp) (r : R (List Dv)) (Q : List V → Hp → Prop) : Prop := match r with
  | .ok l => ∀ vs F' H', Grow F H F' H' → RpL S F' vs l → Q vs H'
  | .err x => ∀ c d F' H', Grow F H F' H' → ExcR S x c d → W c d σ H'
  | .stuck => False
/-- arguments: shared data -/
def JA (S : Sx) (k : Nat) (f : Fm) (es : List Expr) (m : En → R (List Dv)) : Prop :=
  (∀ e ∈ es, plainE e = true) ∧ ∀ (X : Cx) (W : WX), Fit S k f X → Takes X W → ∃ t, PA X es t ∧ ∀ (F0 H0 F H : Hp) (σ : Sg) (env : En) (Q : List V → Hp → Prop), EnvOk S F0 H0 F H σ env → PostA S W σ F H (m env) Q → t σ H Q
theorem plain_any {es : List Expr} (h : ∀ e ∈ es, plainE e = true) (pos : Pos) (env : Env) : (backTo pos (starEach es env)).any (·.1) = false := by
  induction es with
  | nil => rfl
  | cons e es ih =>
    rw [star_of (h e List.mem_cons_self)]
    show (false || (backTo pos (starEach es env)).any (·.1)) = false
    rw [ih fun e' he => h e' (List.mem_cons_of_mem _ he)]
    rfl
theorem ja_nil : JA S k f [] (fun _ => .ok []) := ⟨fun _ h => (by cases h), fun X W fit tk => ⟨_, pa_nil, fun F0 H0 F H σ env Q eo hp => hp [] F H (Grow.refl eo.g.fh) .nil⟩⟩
def consM (ma : En → R Dv) (mb : En → R (List Dv)) : En → R (List Dv) := fun env => (ma env).bind fun x => (mb env).bind fun l => .ok (x :: l)
theorem ja_cons {ma : En → R Dv} {mb : En → R (List Dv)} (ja : JD S k f e ma) (jb : JA S k f es mb) (h : plainE e = true := by rfl) : JA S k f (e :: es) (consM ma mb) :=
  ⟨fun e' he => by
    rcases List.mem_cons.mp he with q | q
    · rw [q]; exact h
    · exact jb.1 e' q, fun X W fit tk => by
    obtain ⟨t, p, ht⟩ := jb.2 X W fit tk
    refine ⟨_, pa_cons (pe_rd (X := X)) p (star_of h es X.env), fun F0 H0 F H σ env Q eo hp => ?_⟩
    intro pins s I
    refine ja X W fit tk pins s F0 H0 F H σ env _ eo I ?_
    unfold consM at hp
    cases q : ma env with
    | err x => rw [q] at hp; exact hp
    | stuck => rw [q] at hp; exact hp
    | ok x =>
      rw [q] at hp
      intro v F1 H1 g1 r1
      refine ht F0 H0 F1 H1 σ env _ (eo.grow g1) ?_
      simp only [R.bind] at hp
      cases q2 : mb env with
      | err x => rw [q2] at hp; exact fun c d F' H' g' ex => hp c d F' H' (g1.trans g') ex
      | stuck => rw [q2] at hp; exact hp
      | ok l =>
        rw [q2] at hp
        intro vs F2 H2 g2 r2
        exact hp (v :: vs) F2 H2 (g1.trans g2) (.cons (Rp.mono g2.ff r1) r2)⟩
theorem jd_tup {m : En → R (List Dv)} {n : Nat} (h : JA S k f es m) : JD S k f (.Tuple es n pos) (fun env => (m env).bind fun l => if l.length ≤ lineP then .ok (.tup l) else .stuck) := j_pe fun X W fit tk => by
  obtain ⟨t, p, ht⟩ := h.2 X W fit tk
  refine ⟨_, pe_tup p, fun F0 H0 F H σ env Q eo hp => ht F0 H0 F H σ env _ eo ?_⟩
  cases q : m env with
  | err x => rw [q] at hp; exact hp
  | stuck => rw [q] at hp; exact hp
  | ok l =>
    rw [q] at hp
    simp only [R.bind] at hp
    split at hp
    · rename_i hl
      exact fun vs F1 H1 g1 r1 => ⟨lineP_le (by rw [r1.length]; exact hl), fun w hw => (Post.grow anti_D hp g1).newD g1.fh r1 hw⟩
    · exact hp.elim
theorem jl_lst {m : En → R (List Dv)} (h : JA S k f es m) : JL S k f (.List es pos) (fun env => (m env).bind fun l => if l.length ≤ lineP then .ok l else .stuck) := j_pe fun X W fit tk => by
  obtain ⟨t, p, ht⟩ := h.2 X W fit tk
  refine ⟨_, pe_lst p, fun F0 H0 F H σ env Q eo hp => ht F0 H0 F H σ env _ eo ?_⟩
  cases q : m env with
  | err x => rw [q] at hp; exact hp
  | stuck => rw [q] at hp; exact hp
  | ok l =>
    rw [q] at hp
    simp only [R.bind] at hp
    split at hp
    · rename_i hl
      exact fun vs F1 H1 g1 r1 => ⟨lineP_le (by rw [r1.length]; exact hl), fun w hw => (Post.grow anti_L hp g1).mineL g1.fh r1 hw⟩
    · exact hp.elim
end

/-! ### calls of built-in functions by one or two values -/
section
variable {α : Type} {S : Sx} {k : Nat} {f : Fm} {p pos : Pos} {a b : Expr} {ma mb : En → R Dv} {good : Hp → Hp → Hp → V → α → Prop} {fd : Dv → R α} {fd2 : Dv → Dv → R α} {r : Cx → List V → Hp → VK → Prop} {x : Str}
def Un1 (S : Sx) (k : Nat) (f : Fm) (good : Hp → Hp → Hp → V → α → Prop) (r : Cx → List V → Hp → VK → Prop) (fd : Dv → R α) : Prop :=
  ∀ (X : Cx) (W : WX) (σ : Sg) (F H : Hp) (v : V) (x : Dv) (Q : VK), Fit S k f X → Ext F H → RpB S F H v x → Post S W σ F H good (fd x) Q → r X [v] H Q
def Un2 (S : Sx) (k : Nat) (f : Fm) (good : Hp → Hp → Hp → V → α → Prop) (r : Cx → List V → Hp → VK → Prop) (fd : Dv → Dv → R α) : Prop :=
  ∀ (X : Cx) (W : WX) (σ : Sg) (F H : Hp) (v u : V) (x y : Dv) (Q : VK), Fit S k f X → Ext F H → RpB S F H v x → RpB S F H u y → Post S W σ F H good (fd x y) Q → r X [v, u] H Q
theorem pa1 {X : Cx} (h : plainE a = true) : PA X [a] (tCons (rd X a) tNil) := pa_cons pe_rd pa_nil (star_of h [] X.env)
theorem pa2 {X : Cx} (h : plainE a = true) (h2 : plainE b = true) : PA X [a, b] (tCons (rd X a) (tCons (rd X b) tNil)) := pa_cons pe_rd (pa_cons pe_rd pa_nil (star_of h2 [] X.env)) (star_of h [b] X.env)
theorem un1_run (an : Anti good) (hm : Un1 S k f good r fd) (ja : JB S k f a ma) {X : Cx} {W : WX} (fit : Fit S k f X) (tk : Takes X W) {F0 H0 F H : Hp} {σ : Sg} {env : En} {Q : VK} (eo : EnvOk S F0 H0 F H σ env)
    (hp : Post S W σ F H good ((ma env).bind fd) Q) : tCB (r X) (tCons (rd X a) tNil) σ H Q :=
  ja.go fit tk eo rfl hp an fun x v F1 H1 g1 r1 eo1 hp1 => hm X W σ F1 H1 v x Q fit eo1.g.fh r1 hp1
theorem un2_run (an : Anti good) (hm : Un2 S k f good r fd2) (ja : JB S k f a ma) (jb : JB S k f b mb) {X : Cx} {W : WX} (fit : Fit S k f X) (tk : Takes X W) {F0 H0 F H : Hp} {σ : Sg} {env : En} {Q : VK} (eo : EnvOk S F0 H0 F H σ env)
    (hp : Post S W σ F H good ((ma env).bind fun x => (mb env).bind fun y => fd2 x y) Q) : tCB (r X) (tCons (rd X a) (tCons (rd X b) tNil)) σ H Q :=
  ja.go fit tk eo rfl hp an fun x v F1 H1 g1 r1 eo1 hp1 => jb.go fit tk eo1 rfl hp1 an fun y u F2 H2 g2 r2 eo2 hp2 => hm X W σ F2 H2 v u x y Q fit eo2.g.fh (RpB.grow r1 g2) r2 hp2
theorem j_call1 {id : String} (an : Anti good) (hc : ∀ X, Fit S k f X → CallR X (.builtin id) (r X)) (hm : Un1 S k f good r fd) (hv : bootBuiltins x = some (.builtin id)) (hg : glB f.sc x = true) (hn : S.mg x = none) (ja : JB S k f a ma) (h : plainE a = true) :
    J S k f good (.Call (.Name x p) [a] [] pos) (fun env => (ma env).bind fd) := j_pe fun X W fit tk =>
  ⟨_, pe_callB (hc X fit) (glB_of fit hg).1 (by rw [fit.hm]; exact hn) hv (pa1 h) (glB_of fit hg).2.2 (glB_of fit hg).2.1 (star_of h [] X.env) rfl, fun F0 H0 F H σ env Q eo hp => un1_run an hm ja fit tk eo hp⟩
theorem j_call2 {id : String} (an : Anti good) (hc : ∀ X, Fit S k f X → CallR X (.builtin id) (r X)) (hm : Un2 S k f good r fd2) (hv : bootBuiltins x = some (.builtin id)) (hg : glB f.sc x = true) (hn : S.mg x = none) (ja : JB S k f a ma) (jb : JB S k f b mb)
    (h : plainE a = true) (h2 : plainE b = true) : J S k f good (.Call (.Name x p) [a, b] [] pos) (fun env => (ma env).bind fun x => (mb env).bind fun y => fd2 x y) := j_pe fun X W fit tk =>
  ⟨_, pe_callB (hc X fit) (glB_of fit hg).1 (by rw [fit.hm]; exact hn) hv (pa2 h h2) (glB_of fit hg).2.2 (glB_of fit hg).2.1 (star_of h [b] X.env) (plain_any (es := [b]) (fun e he => by rw [List.mem_singleton.mp he]; exact h2) pos X.env), fun F0 H0 F H σ env Q eo hp => un2_run an hm ja jb fit tk eo hp⟩
theorem j_callT1 {T : String} (an : Anti good) (hc : ∀ X, Fit S k f X → CallR X (.type T) (r X)) (hm : Un1 S k f good r fd) (hv : bootBuiltins x = some (.type T)) (hg : glB f.sc x = true) (hn : S.mg x = none) (ja : JB S k f a ma) (h : plainE a = true) :
    J S k f good (.Call (.Name x p) [a] [] pos) (fun env => (ma env).bind fd) := j_pe fun X W fit tk =>
  ⟨_, pe_callTy (hc X fit) (glB_of fit hg).1 (by rw [fit.hm]; exact hn) hv (pa1 h) (glB_of fit hg).2.2 (glB_of fit hg).2.1 (star_of h [] X.env) rfl, fun F0 H0 F H σ env Q eo hp => un1_run an hm ja fit tk eo hp⟩
/-- a module's name for a built-in function -/
theorem j_callM2 {id : String} (an : Anti good) (hc : ∀ X, Fit S k f X → CallR X (.builtin id) (r X)) (hm : Un2 S k f good r fd2) (hg : glB f.sc x = true) (hn : S.mg x = some (.builtin id)) (ja : JB S k f a ma) (jb : JB S k f b mb)
    (h : plainE a = true) (h2 : plainE b = true) : J S k f good (.Call (.Name x p) [a, b] [] pos) (fun env => (ma env).bind fun x => (mb env).bind fun y => fd2 x y) := j_pe fun X W fit tk =>
  ⟨_, pe_callBfun (hc X fit) (glB_of fit hg).1 (by rw [fit.hm]; exact hn) (pa2 h h2) (glB_of fit hg).2.1 (star_of h [b] X.env) (plain_any (es := [b]) (fun e he => by rw [List.mem_singleton.mp he]; exact h2) pos X.env), fun F0 H0 F H σ env Q eo hp => un2_run an hm ja jb fit tk eo hp⟩
end
end Py
namespace Py
open PySem PySem.Spec PyProof.Rows L2

/-! ### built-in functions -/
def lenD : Dv → R Dv
  | .lst l => .ok (.int l.length)
  | .tup l => .ok (.int l.length)
  | .str x => if x.length ≤ lineP then .ok (.int x.length) else .stuck
  | _ => .stuck
def absD : Dv → R Dv
  | .int i => .ok (.int (if i < 0 then -i else i))
  | _ => .stuck
def maxD : Dv → Dv → R Dv
  | .int i, .int j => .ok (.int (if j > i then j else i))
  | _, _ => .stuck
def minD : Dv → Dv → R Dv
  | .int i, .int j => .ok (.int (if j < i then j else i))
  | _, _ => .stuck
def intD : Dv → R Dv
  | .int i => .ok (.int i)
  | .bl b => .ok (.int (if b then 1 else 0))
  | _ => .stuck
def gcdD : Dv → Dv → R Dv
  | .int i, .int j => .ok (.int ((Nat.gcd i.natAbs j.natAbs : Nat) : Int))
  | _, _ => .stuck
def tupleD : Dv → R Dv
  | .lst l => .ok (.tup l)
  | .tup l => .ok (.tup l)
  | _ => .stuck
/-- whole numbers all -/
def intsD : List Dv → R (List Int)
  | [] => .ok []
  | .int i :: r => (intsD r).map (i :: ·)
  | _ => .stuck
def sumD (x : Dv) : R Dv := (itemsD x).bind fun l => (intsD l).bind fun ns => .ok (.int ns.sum)
/-- truths of numbers and truth values -/
def trusD : List Dv → R (List Bool)
  | [] => .ok []
  | .int i :: r => (trusD r).map ((i != 0) :: ·)
  | .bl b :: r => (trusD r).map (b :: ·)
  | _ => .stuck
def anyD (x : Dv) : R Dv := (itemsD x).bind fun l => (trusD l).bind fun bs => .ok (.bl (bs.any id))
def allD (x : Dv) : R Dv := (itemsD x).bind fun l => (trusD l).bind fun bs => .ok (.bl (bs.all id))
def bigD (x : Dv) : R Dv := (itemsD x).bind fun l => (intsD l).bind fun ns => match ns with
  | [] => .stuck
  | n :: r => .ok (.int (r.foldl (fun a b => if b > a then b else a) n))
def smallD (x : Dv) : R Dv := (itemsD x).bind fun l => (intsD l).bind fun ns => match ns with
  | [] => .stuck
  | n :: r => .ok (.int (r.foldl (fun a b => if b < a then b else a) n))

section
variable {S : Sx} {k : Nat} {f : Fm} {F H : Hp}
theorem intsD_ok : ∀ {l : List Dv} {ns : List Int} {vs : List V}, intsD l = .ok ns → RpL S F vs l → vs = ns.map V.int
  | [], ns, vs, h, r => by cases h; cases r; rfl
  | d :: ds, ns, vs, h, r => by
    cases d with
    | int i =>
      simp only [intsD] at h
      cases q : intsD ds with
      | ok ms =>
        rw [q] at h
        cases h
        cases r with
        | cons a t =>
          cases a
          rw [intsD_ok q t]
          rfl
      | err x => rw [q] at h; cases h
      | stuck => rw [q] at h; cases h
    | _ => simp [intsD] at h
theorem intsD_noerr : ∀ (l : List Dv) (n : Nat), intsD l ≠ .err n
  | [], n, h => by cases h
  | d :: ds, n, h => by
    cases d with
    | int i =>
      simp only [intsD] at h
      cases q : intsD ds with
      | ok ms => rw [q] at h; cases h
      | err x => exact intsD_noerr ds x q
      | stuck => rw [q] at h; cases h
    | _ => simp [intsD] at h
/-- what any and all ask of each item -/
def TruA (vs : List V) (bs : List Bool) : Prop := vs.length = bs.length ∧ ∀ (i : Nat) v b, vs[i]? = some v → bs[i]? = some b → (v = .bl b ∨ ∃ j, v = .int j ∧ b = (j != 0))
theorem trusD_ok : ∀ {l : List Dv} {bs : List Bool} {vs : List V}, trusD l = .ok bs → RpL S F vs l → TruA vs bs
  | [], bs, vs, h, r => by
    cases h
    cases r
    exact ⟨rfl, fun i v b h => by simp at h⟩
  | d :: ds, bs, vs, h, r => by
    have step : ∀ {b0 : Bool} {v0 : V} {vs' : List V}, (trusD ds).map (b0 :: ·) = .ok bs → RpL S F vs' ds → (v0 = .bl b0 ∨ ∃ j, v0 = .int j ∧ b0 = (j != 0)) → TruA (v0 :: vs') bs := fun {b0 v0 vs'} hh t h0 => by
      cases q : trusD ds with
      | ok ms =>
        rw [q] at hh
        cases hh
        obtain ⟨a, b⟩ := trusD_ok q t
        refine ⟨by rw [List.length_cons, List.length_cons, a], fun i v b' h1 h2 => ?_⟩
        cases i with
        | zero =>
          simp at h1 h2
          rw [← h1, ← h2]
          exact h0
        | succ i => exact b i v b' (by simpa using h1) (by simpa using h2)
      | err x => rw [q] at hh; cases hh
      | stuck => rw [q] at hh; cases hh
    cases d with
    | int i =>
      cases r with
      | cons a t =>
        cases a
        exact step h t (.inr ⟨i, rfl, rfl⟩)
    | bl i =>
      cases r with
      | cons a t =>
        cases a
        exact step h t (.inl rfl)
    | _ => simp [trusD] at h
theorem trusD_noerr : ∀ (l : List Dv) (n : Nat), trusD l ≠ .err n
  | [], n, h => by cases h
  | d :: ds, n, h => by
    have ih := trusD_noerr ds
    cases d <;> simp only [trusD] at h <;> first
      | (cases h; done)
      | (cases q : trusD ds with
         | ok ms => rw [q] at h; cases h
         | err x => exact ih x q
         | stuck => rw [q] at h; cases h)
theorem itemsD_noerr {d : Dv} : ∀ n, itemsD d ≠ .err n := fun n h => by cases d <;> cases h
end
section
variable {X : Cx}
/-- sum of a list or a tuple of whole numbers -/
def rSumP (X : Cx) : List V → Hp → VK → Prop := fun vs H Q => ∃ (a : Addr) (ns : List Int), vs = [V.ref a] ∧ (SqL X.K H a (ns.map V.int) ∨ SqT X.K H a (ns.map V.int)) ∧ Q (.int ns.sum) H
theorem iter_tupAny {prog : Program} {w : World} {A : Around} {E : Value → Shared → Prop} {s : Shared} {l : Addr} {items : Array Value} {Q : Value → Shared → Prop} (hl : s.heap.IsTuple l items)
    (h : ∀ s₂ : Shared, s₂ = { s with heap := s.heap.push { cls := .type "tuple_iterator", data := .fields #[.ref l, .int 0 0] } } →
      (s₂.heap.IsTupleIter s.heap.objs.size l 0 ∧ s₂.heap.IsTuple l items) → l ≠ s.heap.objs.size → l < s.heap.objs.size → Q (.ref s.heap.objs.size) s₂) : wpAny (model prog w) A (pyIter (.ref l)) Q E s := by
  have hlt : l < s.heap.objs.size := by
    obtain ⟨_, e, _⟩ := hl
    exact Heap.lt_size e
  refine wpAny_pyIter_tuple hl (h _ rfl ⟨⟨_, Heap.get?_push_size _ rfl, rfl, rfl⟩, ?_⟩ (Nat.ne_of_lt hlt) hlt)
  obtain ⟨o, e, c⟩ := hl
  exact ⟨o, Heap.get?_push_of_some _ e, c⟩
theorem preSum_list {f : Nat → Int} : ∀ (ns : List Int), (∀ i, i < ns.length → ns[i]? = some (f i)) → ∀ n, n ≤ ns.length → preSum f n = (ns.take n).sum
  | ns, h, 0, _ => by simp [preSum]
  | ns, h, n + 1, hn => by
    have e := h n hn
    rw [preSum, preSum_list ns h n (Nat.le_of_lt hn), List.take_add_one, e]
    simp
theorem cr_sumP (hc : X.calm = true) : CallR X (.builtin "sum") (rSumP X) := by
  intro pins s σ H vs us Q I r h
  obtain ⟨a, ns, rfl, hs, q⟩ := h
  rcases hs with hs | hs
  · exact cr_sum hc pins s σ H _ us Q I r ⟨a, ns, rfl, hs, q⟩
  · obtain ⟨its, rv, hl, _⟩ := I.tuple hs
    rw [Vals.ref1 r]
    have hi := rv.ints
    have hlen := rv.length
    rw [List.length_map] at hlen
    refine call_sum_walkG (iter_tupAny (show s.heap.IsTuple a its.toArray from hl) fun s₂ e2 st hne hlt => ?_)
    subst e2
    refine ⟨_, _, _, _, _, _, fun i => ns.getD i 0, rfl, Walks.tuple (A := X.A.in1) (I.ok.hd hc) _ a hne its.toArray, st, fun b hb => ?_, fun i v hv => ?_, fun h' tk t' hk => ?_⟩
    · rcases List.mem_cons.mp hb with e | hb
      · rw [e]
        show _ < (s.heap.push _).objs.size
        rw [Heap.size_push]
        exact Nat.lt_succ_self _
      · rw [List.mem_singleton.mp hb]
        show _ < (s.heap.push _).objs.size
        rw [Heap.size_push]
        exact Nat.lt_succ_of_lt hlt
    · have hv' : its[i]? = some v := by simpa using hv
      have hil : i < ns.length := by
        rw [hlen]
        exact (List.getElem?_eq_some_iff.mp hv').1
      have e1 : (ns.map V.int)[i]? = some (.int (ns.getD i 0)) := by
        rw [List.getElem?_map, List.getElem?_eq_getElem hil, List.getD_eq_getElem?_getD, List.getElem?_eq_getElem hil]
        rfl
      obtain ⟨u, hu, ⟨t, ru⟩⟩ := rv.get e1
      rw [hv'] at hu
      cases hu
      exact ⟨t, ru⟩
    · refine ⟨.int ns.sum, H, I.kept fun b o eo => hk b o (fun hmem => ?_) (Heap.get?_push_of_some _ eo), ⟨t', ?_⟩, q⟩
      · rcases List.mem_cons.mp hmem with e1 | hmem
        · exact absurd (e1 ▸ Heap.lt_size eo) (Nat.lt_irrefl _)
        · cases hmem
      · rw [List.size_toArray, ← hlen, preSum_list (f := fun i => ns.getD i 0) ns (fun i hi => by rw [List.getD_eq_getElem?_getD, List.getElem?_eq_getElem hi]; rfl) ns.length (Nat.le_refl _), List.take_length]
/-- any, all of a list or tuple of numbers and truth values -/
theorem truth_A {prog : Program} {w : World} {A : Around} {vs : List V} {bs : List Bool} {its : List Value} (rv : Vals vs its) (t : TruA vs bs) : TruthOf prog w A (fun i v => its.toArray[i]? = some v) (fun i => bs.getD i false) := fun i v s Q E hv hq => by
  have hv' : its[i]? = some v := by simpa using hv
  have hil : i < vs.length := by
    rw [rv.length]
    exact (List.getElem?_eq_some_iff.mp hv').1
  have hib : i < bs.length := by
    rw [← t.1]
    exact hil
  obtain ⟨u, hu, ru⟩ := rv.get (List.getElem?_eq_getElem hil)
  rw [hv'] at hu
  cases hu
  have hg : bs.getD i false = bs[i] := by
    rw [List.getD_eq_getElem?_getD, List.getElem?_eq_getElem hib]
    rfl
  have hq' : Q (bs.getD i false) s := hq
  rw [hg] at hq'
  rcases t.2 i _ _ (List.getElem?_eq_getElem hil) (List.getElem?_eq_getElem hib) with e | ⟨j, e, eb⟩
  · rw [e] at ru
    cases (show v = Value.bool bs[i] from ru)
    exact wpAny_truthy_bool hq'
  · rw [e] at ru
    obtain ⟨tk, rfl⟩ := (show ∃ t, v = Value.int j t from ru)
    rw [eb] at hq'
    exact PySem.P.truthy_int hq'
def rAnyP (X : Cx) (g : List Bool → Bool) : List V → Hp → VK → Prop := fun vs H Q => ∃ (a : Addr) (xs : List V) (bs : List Bool), vs = [V.ref a] ∧ (SqL X.K H a xs ∨ SqT X.K H a xs) ∧ TruA xs bs ∧ Q (.bl (g bs)) H
theorem cr_anyP (hc : X.calm = true) : CallR X (.builtin "any") (rAnyP X fun bs => bs.any id) := by
  intro pins s σ H vs us Q I r h
  obtain ⟨a, xs, bs, rfl, hs, ht, q⟩ := h
  rw [Vals.ref1 r]
  have fin : ∀ {its : List Value} {n : Nat} {ob : Obj} {h' : Heap} {tk : Nat}, Vals xs its → (∀ b o, b ∉ [s.heap.objs.size] → (s.heap.push ob).get? b = some o → h'.get? b = some o) →
      EP X pins σ Q (.bool ((List.range its.toArray.size).any fun i => bs.getD i false)) { s with heap := h', toks := tk } := fun {its n ob h' tk} rv hk => by
    refine ⟨.bl _, H, I.kept fun b o eo => hk b o (fun hmem => ?_) (Heap.get?_push_of_some _ eo), ?_, q⟩
    · rw [List.mem_singleton] at hmem
      exact absurd (hmem ▸ Heap.lt_size eo) (Nat.lt_irrefl _)
    · show Value.bool _ = Value.bool (bs.any id)
      rw [← L2.any_range, List.size_toArray, ← rv.length, ht.1]
  rcases hs with hs | hs
  · obtain ⟨its, rv, hl, _⟩ := I.list hs
    refine call_any_walk (iter_any hl.isList fun s₂ e2 st hne => ?_)
    subst e2
    exact ⟨_, _, _, _, _, _, _, rfl, Walks.list (A := X.A.in1) (I.ok.hd hc) _ a hne its.toArray, st, truth_A rv ht, fun h' tk hk => fin (n := 0) rv hk⟩
  · obtain ⟨its, rv, hl, _⟩ := I.tuple hs
    refine call_any_walk (iter_tupAny (show s.heap.IsTuple a its.toArray from hl) fun s₂ e2 st hne _ => ?_)
    subst e2
    exact ⟨_, _, _, _, _, _, _, rfl, Walks.tuple (A := X.A.in1) (I.ok.hd hc) _ a hne its.toArray, st, truth_A rv ht, fun h' tk hk => fin (n := 0) rv hk⟩
theorem cr_allP (hc : X.calm = true) : CallR X (.builtin "all") (rAnyP X fun bs => bs.all id) := by
  intro pins s σ H vs us Q I r h
  obtain ⟨a, xs, bs, rfl, hs, ht, q⟩ := h
  rw [Vals.ref1 r]
  have fin : ∀ {its : List Value} {n : Nat} {ob : Obj} {h' : Heap} {tk : Nat}, Vals xs its → (∀ b o, b ∉ [s.heap.objs.size] → (s.heap.push ob).get? b = some o → h'.get? b = some o) →
      EP X pins σ Q (.bool ((List.range its.toArray.size).all fun i => bs.getD i false)) { s with heap := h', toks := tk } := fun {its n ob h' tk} rv hk => by
    refine ⟨.bl _, H, I.kept fun b o eo => hk b o (fun hmem => ?_) (Heap.get?_push_of_some _ eo), ?_, q⟩
    · rw [List.mem_singleton] at hmem
      exact absurd (hmem ▸ Heap.lt_size eo) (Nat.lt_irrefl _)
    · show Value.bool _ = Value.bool (bs.all id)
      rw [← L2.all_range, List.size_toArray, ← rv.length, ht.1]
  rcases hs with hs | hs
  · obtain ⟨its, rv, hl, _⟩ := I.list hs
    refine call_all_walk (iter_any hl.isList fun s₂ e2 st hne => ?_)
    subst e2
    exact ⟨_, _, _, _, _, _, _, rfl, Walks.list (A := X.A.in1) (I.ok.hd hc) _ a hne its.toArray, st, truth_A rv ht, fun h' tk hk => fin (n := 0) rv hk⟩
  · obtain ⟨its, rv, hl, _⟩ := I.tuple hs
    refine call_all_walk (iter_tupAny (show s.heap.IsTuple a its.toArray from hl) fun s₂ e2 st hne _ => ?_)
    subst e2
    exact ⟨_, _, _, _, _, _, _, rfl, Walks.tuple (A := X.A.in1) (I.ok.hd hc) _ a hne its.toArray, st, truth_A rv ht, fun h' tk hk => fin (n := 0) rv hk⟩
end

section
variable {S : Sx} {k : Nat} {f : Fm} {p pos : Pos} {a b : Expr} {ma mb : En → R Dv}
def rLenP (X : Cx) : List V → Hp → VK → Prop := fun xs H Q => ∃ x n, xs = [x] ∧ LenV X.K x H n ∧ Q (.int n) H
theorem un1_len : Un1 S k f (gD S) rLenP lenD := by
  intro X W σ F H v x Q fit ex rx hp
  cases x with
  | lst l =>
    obtain ⟨p, vs, rfl, hpp, r1⟩ := rx.lstAt ex
    exact ⟨_, l.length, rfl, .inl ⟨vs, SqL.of hpp, r1.length.symm⟩, Post.okv hp ex (.int _)⟩
  | tup l =>
    obtain ⟨p, vs, rfl, _, hpp, r1⟩ := rx.tupAt ex
    exact ⟨_, l.length, rfl, .inr ⟨vs, SqT.of hpp, r1.length.symm⟩, Post.okv hp ex (.int _)⟩
  | str y =>
    rw [rx.strAt]
    simp only [lenD] at hp
    split at hp
    · rename_i h
      exact ⟨_, y.length, rfl, ⟨lineP_le h, rfl⟩, Post.okv hp ex (.int _)⟩
    · exact hp.elim
  | _ => exact hp.elim
theorem jd_len (hn : S.mg "len" = none) (ja : JB S k f a ma) (h : plainE a = true := by rfl) (hg : glB f.sc "len" = true := by decide +kernel) : JD S k f (.Call (.Name "len" p) [a] [] pos) (fun env => (ma env).bind lenD) :=
  j_call1 anti_D (fun X _ => call_len) un1_len boot_len hg hn ja h
theorem jd_abs (hn : S.mg "abs" = none) (ja : JB S k f a ma) (h : plainE a = true := by rfl) (hg : glB f.sc "abs" = true := by decide +kernel) : JD S k f (.Call (.Name "abs" p) [a] [] pos) (fun env => (ma env).bind absD) :=
  j_call1 anti_D (r := fun X xs H Q => ∃ i, xs = [.int i] ∧ Q (.int (if i < 0 then -i else i)) H) (fun X _ => call_abs) (fun X W σ F H v x Q fit ex rx hp => by
    cases x with
    | int i =>
      rw [rx.intAt]
      exact ⟨i, rfl, Post.okv hp ex (.int _)⟩
    | _ => exact hp.elim) PyProof.Rows.boot_abs hg hn ja h
theorem jd_max2 (hn : S.mg "max" = none) (ja : JB S k f a ma) (jb : JB S k f b mb) (h : plainE a = true := by rfl) (h2 : plainE b = true := by rfl) (hg : glB f.sc "max" = true := by decide +kernel) :
    JD S k f (.Call (.Name "max" p) [a, b] [] pos) (fun env => (ma env).bind fun x => (mb env).bind fun y => maxD x y) :=
  j_call2 anti_D (r := fun X xs H Q => ∃ i j, xs = [.int i, .int j] ∧ Q (.int (if j > i then j else i)) H) (fun X fit => call_max2 fit.calm) (fun X W σ F H v u x y Q fit ex rx ry hp => by
    unfold maxD at hp
    split at hp
    · rw [rx.intAt, ry.intAt]
      exact ⟨_, _, rfl, Post.okv hp ex (.int _)⟩
    · exact hp.elim) (by decide +kernel) hg hn ja jb h h2
theorem jd_min2 (hn : S.mg "min" = none) (ja : JB S k f a ma) (jb : JB S k f b mb) (h : plainE a = true := by rfl) (h2 : plainE b = true := by rfl) (hg : glB f.sc "min" = true := by decide +kernel) :
    JD S k f (.Call (.Name "min" p) [a, b] [] pos) (fun env => (ma env).bind fun x => (mb env).bind fun y => minD x y) :=
  j_call2 anti_D (r := fun X xs H Q => ∃ i j, xs = [.int i, .int j] ∧ Q (.int (if j < i then j else i)) H) (fun X fit => call_min2 fit.calm) (fun X W σ F H v u x y Q fit ex rx ry hp => by
    unfold minD at hp
    split at hp
    · rw [rx.intAt, ry.intAt]
      exact ⟨_, _, rfl, Post.okv hp ex (.int _)⟩
    · exact hp.elim) (by decide +kernel) hg hn ja jb h h2
theorem jd_gcd (hn : S.mg "gcd" = some (.builtin "math.gcd")) (ja : JB S k f a ma) (jb : JB S k f b mb) (h : plainE a = true := by rfl) (h2 : plainE b = true := by rfl) (hg : glB f.sc "gcd" = true := by decide +kernel) :
    JD S k f (.Call (.Name "gcd" p) [a, b] [] pos) (fun env => (ma env).bind fun x => (mb env).bind fun y => gcdD x y) :=
  j_callM2 anti_D (r := fun X => rGcd) (fun X fit => cr_gcd) (fun X W σ F H v u x y Q fit ex rx ry hp => by
    unfold gcdD at hp
    split at hp
    · rw [rx.intAt, ry.intAt]
      exact ⟨_, _, rfl, Post.okv hp ex (.int _)⟩
    · exact hp.elim) hg hn ja jb h h2
theorem jd_toint (hn : S.mg "int" = none) (ja : JB S k f a ma) (h : plainE a = true := by rfl) (hg : glB f.sc "int" = true := by decide +kernel) : JD S k f (.Call (.Name "int" p) [a] [] pos) (fun env => (ma env).bind intD) :=
  j_callT1 anti_D (r := fun X xs H Q => (∃ i, xs = [.int i] ∧ Q (.int i) H) ∨ ∃ k, xs = [.bl k] ∧ Q (.int (if k then 1 else 0)) H) (fun X _ => call_int1) (fun X W σ F H v x Q fit ex rx hp => by
    cases x with
    | int i =>
      rw [rx.intAt]
      exact .inl ⟨i, rfl, Post.okv hp ex (.int _)⟩
    | bl i =>
      rw [rx.blAt]
      exact .inr ⟨i, rfl, Post.okv hp ex (.int _)⟩
    | _ => exact hp.elim) boot_int hg hn ja h
theorem jd_sum (hn : S.mg "sum" = none) (ja : JB S k f a ma) (h : plainE a = true := by rfl) (hg : glB f.sc "sum" = true := by decide +kernel) : JD S k f (.Call (.Name "sum" p) [a] [] pos) (fun env => (ma env).bind sumD) :=
  j_call1 anti_D (r := rSumP) (fun X fit => cr_sumP fit.calm) (fun X W σ F H v x Q fit ex rx hp => by
    unfold sumD at hp
    cases q : itemsD x with
    | err n => exact absurd q (itemsD_noerr n)
    | stuck => rw [q] at hp; exact hp.elim
    | ok l =>
      rw [q] at hp
      simp only [R.bind] at hp
      cases q2 : intsD l with
      | err n => exact absurd q2 (intsD_noerr l n)
      | stuck => rw [q2] at hp; exact hp.elim
      | ok ns =>
        rw [q2] at hp
        obtain ⟨p, vs, rfl, hs, r1⟩ := rx.itemsAt (K := X.K) ex q
        rw [intsD_ok q2 r1] at hs
        exact ⟨p, ns, rfl, hs, Post.okv hp ex (.int _)⟩) PyProof.Rows.boot_sum hg hn ja h
theorem un1_truA {g : List Bool → Bool} : Un1 S k f (gD S) (fun X => rAnyP X g) (fun x => (itemsD x).bind fun l => (trusD l).bind fun bs => .ok (.bl (g bs))) := by
  intro X W σ F H v x Q fit ex rx hp
  simp only at hp
  cases q : itemsD x with
  | err n => exact absurd q (itemsD_noerr n)
  | stuck => rw [q] at hp; exact hp.elim
  | ok l =>
    rw [q] at hp
    simp only [R.bind] at hp
    cases q2 : trusD l with
    | err n => exact absurd q2 (trusD_noerr l n)
    | stuck => rw [q2] at hp; exact hp.elim
    | ok bs =>
      rw [q2] at hp
      obtain ⟨p, vs, rfl, hs, r1⟩ := rx.itemsAt (K := X.K) ex q
      exact ⟨p, vs, bs, rfl, hs, trusD_ok q2 r1, Post.okv hp ex (.bl _)⟩
theorem jd_any (hn : S.mg "any" = none) (ja : JB S k f a ma) (h : plainE a = true := by rfl) (hg : glB f.sc "any" = true := by decide +kernel) : JD S k f (.Call (.Name "any" p) [a] [] pos) (fun env => (ma env).bind anyD) :=
  j_call1 anti_D (fun X fit => cr_anyP fit.calm) un1_truA (by decide +kernel) hg hn ja h
theorem jd_all (hn : S.mg "all" = none) (ja : JB S k f a ma) (h : plainE a = true := by rfl) (hg : glB f.sc "all" = true := by decide +kernel) : JD S k f (.Call (.Name "all" p) [a] [] pos) (fun env => (ma env).bind allD) :=
  j_call1 anti_D (fun X fit => cr_allP fit.calm) un1_truA (by decide +kernel) hg hn ja h
theorem jd_tuple (hn : S.mg "tuple" = none) (ja : JB S k f a ma) (h : plainE a = true := by rfl) (hg : glB f.sc "tuple" = true := by decide +kernel) : JD S k f (.Call (.Name "tuple" p) [a] [] pos) (fun env => (ma env).bind tupleD) :=
  j_callT1 anti_D (r := fun X xs H Q => ∃ p ys, xs = [.ref p] ∧ ((SqL X.K H p ys ∧ ∀ l, H l = none → Q (.ref l) (upd H l (.tup ys))) ∨ (SqT X.K H p ys ∧ Q (.ref p) H))) (fun X _ => call_tuple_of) (fun X W σ F H v x Q fit ex rx hp => by
    cases x with
    | lst l =>
      obtain ⟨p, vs, rfl, hpp, r1⟩ := rx.lstAt ex
      exact ⟨p, vs, rfl, .inl ⟨SqL.of hpp, fun w hw => Post.newD hp ex r1 hw⟩⟩
    | tup l =>
      obtain ⟨p, vs, rfl, fp, hpp, r1⟩ := rx.tupAt ex
      exact ⟨p, vs, rfl, .inr ⟨SqT.of hpp, Post.okv hp ex (.tup fp r1)⟩⟩
    | _ => exact hp.elim) boot_tuple hg hn ja h
theorem jl_list (hn : S.mg "list" = none) (ja : JB S k f a ma) (h : plainE a = true := by rfl) (hg : glB f.sc "list" = true := by decide +kernel) : JL S k f (.Call (.Name "list" p) [a] [] pos) (fun env => (ma env).bind itemsD) :=
  j_callT1 anti_L (r := fun X xs H Q => ∃ p ys, xs = [.ref p] ∧ (SqL X.K H p ys ∨ SqT X.K H p ys) ∧ ∀ l, H l = none → Q (.ref l) (upd H l (.lst ys))) (fun X _ => call_list_of) (fun X W σ F H v x Q fit ex rx hp => by
    cases q : itemsD x with
    | err n => exact absurd q (itemsD_noerr n)
    | stuck => rw [q] at hp; exact hp.elim
    | ok l =>
      rw [q] at hp
      obtain ⟨p, vs, rfl, hs, r1⟩ := rx.itemsAt (K := X.K) ex q
      exact ⟨p, vs, rfl, hs, fun w hw => Post.mineL hp ex r1 hw⟩) boot_list hg hn ja h
theorem foldl_big : ∀ (r : List Int) (n : Int), (r.foldl (fun a b => if b > a then b else a) n) ∈ n :: r ∧ ∀ y ∈ n :: r, y ≤ r.foldl (fun a b => if b > a then b else a) n
  | [], n => ⟨by simp, fun y hy => by rw [List.mem_singleton.mp hy]; exact Int.le_refl _⟩
  | b :: r, n => by
    rw [List.foldl_cons]
    obtain ⟨h1, h2⟩ := foldl_big r (if b > n then b else n)
    have hb : b ≤ (if b > n then b else n) ∧ n ≤ (if b > n then b else n) := by split <;> omega
    refine ⟨?_, fun y hy => ?_⟩
    · rcases List.mem_cons.mp h1 with e | e
      · rw [e]
        split <;> simp
      · exact List.mem_cons_of_mem _ (List.mem_cons_of_mem _ e)
    · have h3 := h2 _ List.mem_cons_self
      rcases List.mem_cons.mp hy with e | e
      · rw [e]
        exact Int.le_trans hb.2 h3
      · rcases List.mem_cons.mp e with e | e
        · rw [e]
          exact Int.le_trans hb.1 h3
        · exact h2 y (List.mem_cons_of_mem _ e)
theorem foldl_small : ∀ (r : List Int) (n : Int), (r.foldl (fun a b => if b < a then b else a) n) ∈ n :: r ∧ ∀ y ∈ n :: r, r.foldl (fun a b => if b < a then b else a) n ≤ y
  | [], n => ⟨by simp, fun y hy => by rw [List.mem_singleton.mp hy]; exact Int.le_refl _⟩
  | b :: r, n => by
    rw [List.foldl_cons]
    obtain ⟨h1, h2⟩ := foldl_small r (if b < n then b else n)
    have hb : (if b < n then b else n) ≤ b ∧ (if b < n then b else n) ≤ n := by split <;> omega
    refine ⟨?_, fun y hy => ?_⟩
    · rcases List.mem_cons.mp h1 with e | e
      · rw [e]
        split <;> simp
      · exact List.mem_cons_of_mem _ (List.mem_cons_of_mem _ e)
    · have h3 := h2 _ List.mem_cons_self
      rcases List.mem_cons.mp hy with e | e
      · rw [e]
        exact Int.le_trans h3 hb.2
      · rcases List.mem_cons.mp e with e | e
        · rw [e]
          exact Int.le_trans h3 hb.1
        · exact h2 y (List.mem_cons_of_mem _ e)

/-! ### isinstance -/
/-- which built-in class -/
inductive TyK where
  | int | bool | str | list | tuple
def TyK.nm : TyK → String
  | .int => "int"
  | .bool => "bool"
  | .str => "str"
  | .list => "list"
  | .tuple => "tuple"
def tyN : Dv → Option String
  | .non => some "NoneType"
  | .bl _ => some "bool"
  | .int _ => some "int"
  | .str _ => some "str"
  | .lst _ => some "list"
  | .tup _ => some "tuple"
  | .fn _ => none
  | .ins _ _ => none
def isiB : TyK → Dv → Bool
  | .int, .int _ => true
  | .int, .bl _ => true
  | .bool, .bl _ => true
  | .str, .str _ => true
  | .list, .lst _ => true
  | .tuple, .tup _ => true
  | _, _ => false
def isiD (t : TyK) : Dv → R Bool
  | .fn _ => .stuck
  | .ins _ _ => .stuck
  | d => .ok (isiB t d)
theorem isi_kit (t : TyK) (d : Dv) {n : String} (h : tyN d = some n) : kitB n t.nm = some (isiB t d) := by
  cases d <;> cases h <;> cases t <;> simp only [isiB] <;> decide +kernel
theorem tyX_of {K : PySem.W.Frag} {F H : Hp} {v : V} {d : Dv} {n : String} (ex : Ext F H) (h : tyN d = some n) (r : RpB S F H v d) : TyX K H v (.type n) := by
  cases d with
  | non => cases h; rw [r.nonAt]; exact .base .non
  | bl b => cases h; rw [r.blAt]; exact .base (.bl b)
  | int i => cases h; rw [r.intAt]; exact .base (.int i)
  | str x => cases h; rw [r.strAt]; exact .base (.str x)
  | lst l =>
    cases h
    obtain ⟨p, vs, rfl, hp, _⟩ := r.lstAt ex
    exact .base (.lst hp)
  | tup l =>
    cases h
    obtain ⟨p, vs, rfl, _, hp, _⟩ := r.tupAt ex
    exact .base (.tup hp)
  | fn k => cases h
  | ins c l => cases h
theorem TyK.boot (t : TyK) : bootBuiltins (Str.ofString t.nm) = some (.type t.nm) := by cases t <;> decide +kernel
theorem pe_ty {X : Cx} (fit : Fit S k f X) (t : TyK) (hn : S.mg (Str.ofString t.nm) = none) (hg : glB f.sc (Str.ofString t.nm) = true) : PE X (.Name (Str.ofString t.nm) p) (tC (.ty t.nm)) :=
  pe_bltn (glB_of fit hg).1 (by rw [fit.hm]; exact hn) t.boot rfl (glB_of fit hg).2.2 (glB_of fit hg).2.1
theorem tyN_of {d : Dv} {t : TyK} {b : Bool} (h : isiD t d = .ok b) : ∃ n, tyN d = some n ∧ b = isiB t d := by
  cases d <;> simp only [isiD] at h <;> first
    | (cases h; exact ⟨_, rfl, rfl⟩)
    | cases h
theorem jc_isi {p2 : Pos} (t : TyK) (h0 : S.mg "isinstance" = none) (hn : S.mg (Str.ofString t.nm) = none) (ja : JB S k f a ma) (h : plainE a = true := by rfl) (hg0 : glB f.sc "isinstance" = true := by decide +kernel) (hg : glB f.sc (Str.ofString t.nm) = true := by decide +kernel) :
    JC S k f (.Call (.Name "isinstance" p) [a, .Name (Str.ofString t.nm) p2] [] pos) (fun env => (ma env).bind (isiD t)) := j_pe fun X W fit tk =>
  ⟨_, pe_callB call_isi (glB_of fit hg0).1 (by rw [fit.hm]; exact h0) (by decide +kernel) (pa_cons pe_rd (pa_cons (pe_ty fit t hn hg) pa_nil rfl) (star_of h _ X.env)) (glB_of fit hg0).2.2 (glB_of fit hg0).2.1 (star_of h _ X.env) rfl, fun F0 H0 F H σ env Q eo hp =>
    ja.go fit tk eo rfl hp anti_T fun x v F1 H1 g1 r1 eo1 hp1 => by
      cases q : isiD t x with
      | ok b =>
        rw [q] at hp1
        obtain ⟨n, hn, rfl⟩ := tyN_of q
        exact ⟨v, .ty t.nm, .type n, .type t.nm, _, rfl, .ty _, tyX_of eo1.g.fh hn r1, kit_ty (isi_kit t x hn), Post.okv hp1 eo1.g.fh rfl⟩
      | err n => exact absurd q (by cases x <;> (intro z; cases z))
      | stuck => rw [q] at hp1; exact hp1.elim⟩
/-- isinstance(x, (t, u)) -/
theorem jc_isi2 {p2 p3 p4 : Pos} {n : Nat} (t u : TyK) (h0 : S.mg "isinstance" = none) (hn : S.mg (Str.ofString t.nm) = none) (hn2 : S.mg (Str.ofString u.nm) = none) (ja : JB S k f a ma) (h : plainE a = true := by rfl) (hg0 : glB f.sc "isinstance" = true := by decide +kernel)
    (hg : glB f.sc (Str.ofString t.nm) = true := by decide +kernel) (hg2 : glB f.sc (Str.ofString u.nm) = true := by decide +kernel) :
    JC S k f (.Call (.Name "isinstance" p) [a, .Tuple [.Name (Str.ofString t.nm) p2, .Name (Str.ofString u.nm) p3] n p4] [] pos) (fun env => (ma env).bind fun x => (isiD t x).bind fun b => (isiD u x).bind fun c => .ok (b || c)) := j_pe fun X W fit tk =>
  ⟨_, pe_callB call_isiT (glB_of fit hg0).1 (by rw [fit.hm]; exact h0) (by decide +kernel) (pa_cons pe_rd (pa_cons (pe_tup (pa_cons (pe_ty fit t hn hg) (pa_cons (pe_ty fit u hn2 hg2) pa_nil rfl) rfl)) pa_nil rfl) (star_of h _ X.env)) (glB_of fit hg0).2.2 (glB_of fit hg0).2.1 (star_of h _ X.env) rfl, fun F0 H0 F H σ env Q eo hp =>
    ja.go fit tk eo rfl hp anti_T fun x v F1 H1 g1 r1 eo1 hp1 => by
      cases q : isiD t x with
      | ok b =>
        cases q2 : isiD u x with
        | ok c =>
          rw [q, q2] at hp1
          obtain ⟨m, hm, rfl⟩ := tyN_of q
          obtain ⟨m2, hm2, rfl⟩ := tyN_of q2
          refine ⟨by show 2 ≤ sizeLine; decide, fun w hw => ?_⟩
          have g2 : Grow F1 H1 (upd F1 w (.tup [.ty t.nm, .ty u.nm])) (upd H1 w (.tup [.ty t.nm, .ty u.nm])) := Grow.new eo1.g.fh hw
          refine ⟨v, w, [.ty t.nm, .ty u.nm], .type m, [.type t.nm, .type u.nm], _, rfl, upd_same, .cons (.ty _) (.cons (.ty _) .nil), tyX_of g2.fh hm (r1.grow g2), ?_, hp1 (.bl (isiB t x || isiB u x)) _ _ g2 rfl⟩
          refine kitAny_cons (kit_ty (isi_kit t x hm)) (fun e => ?_) (fun e => by rw [e]; rfl)
          rw [e, Bool.false_or]
          exact kitAny_cons (kit_ty (isi_kit u x hm)) (fun e => by rw [e]; exact kitAny_nil) (fun e => e)
        | err n => exact absurd q2 (by cases x <;> (intro z; cases z))
        | stuck => rw [q, q2] at hp1; exact hp1.elim
      | err n => exact absurd q (by cases x <;> (intro z; cases z))
      | stuck => rw [q] at hp1; exact hp1.elim⟩
end
end Py
namespace Py
open PySem PySem.Spec PyProof.Rows L2

/-! ### targets: names, and tuples of them -/
def locA (f : Fm) (i : Nat) (x : Str) : Bool := decide (f.N[i]? = some x) && (match f.sc.names.lookup x with
  | some .local => true
  | some .cell => f.fn x
  | _ => false)
theorem locA_of {f : Fm} {i : Nat} {x : Str} (h : locA f i x = true) : f.N[i]? = some x ∧ Loc f.sc x ∧ (f.fn x = true ∨ f.sc.names.lookup x = some .local) := by
  unfold locA at h
  rw [Bool.and_eq_true, decide_eq_true_eq] at h
  refine ⟨h.1, ?_⟩
  have z := h.2
  split at z
  · rename_i q
    exact ⟨.inl q, .inr q⟩
  · rename_i q
    exact ⟨.inr q, .inl z⟩
  · cases z
section
variable {S : Sx} {k : Nat} {f : Fm} {pos : Pos}
/-- the private slots of e are those of env, apart from idx -/
def PvIn (idx : List Nat) (e env : En) : Prop := ∀ (j : Nat) (l : Sl), l.pv = true → e[j]? = some (some l) → j ∉ idx ∧ env[j]? = some (some l)
def JG (S : Sx) (k : Nat) (f : Fm) (tg : Expr) (idx : List Nat) (b : Dv → En → R En) : Prop :=
  ∀ (X : Cx), Fit S k f X → ∀ (pins : List (Addr × Obj)) (s : Shared) (F0 H0 F H : Hp) (σ : Sg) (env e' : En) (v : V) (u : Value) (d : Dv) (Q : Sg → Hp → Prop), EnvOk S F0 H0 F H σ env → Inv X pins σ H s → RelV v u → Rp S F v d →
    b d env = .ok e' → (∀ σ', EnvOk S F0 H0 F H σ' e' → σ'.length = σ.length → (∀ (j : Nat), j ∉ idx → σ'[j]? = σ[j]?) → PvIn idx e' env → Q σ' H) → wpAny (model X.prog X.w) X.A (assign tg X.env u) (fun _ s' => ∃ σ' H', Inv X pins σ' H' s' ∧ Q σ' H') X.xe s
def putM (i : Nat) : Dv → En → R En := fun d env => .ok (env.set i (some (.val d)))
theorem jg_n {x : Str} (i : Nat) (h : locA f i x = true) : JG S k f (.Name x pos) [i] (putM i) := fun X fit pins s F0 H0 F H σ env e' v u d Q eo I r rp hb q => by
  obtain ⟨h1, h2, h3⟩ := locA_of h
  refine (pg_name (X := X) (i := i) (by rw [fit.hN]; exact fit.nd) (by rw [fit.hN]; exact h1) (by rw [fit.hs]; exact h2) (by rw [fit.hs, fit.hf]; exact h3)).run pins s σ H v u Q I r ?_
  cases hb
  exact q _ (eo.put i rp) (by rw [List.length_set]) (fun j hj => by
    rw [List.getElem?_set_ne]
    intro z
    exact hj (by rw [z]; exact List.mem_singleton_self j)) fun j l hl h => by
    rcases En.set_at h with ⟨_, z⟩ | ⟨n, h⟩
    · cases z; cases hl
    · exact ⟨fun z => n (List.mem_singleton.mp z).symm, h⟩
def bindAll : List (Dv → En → R En) → List Dv → En → R En
  | [], [], env => .ok env
  | b :: bs, d :: ds, env => (b d env).bind fun e => bindAll bs ds e
  | _, _, _ => .stuck
def tupM (bs : List (Dv → En → R En)) : Dv → En → R En := fun d env => match d with
  | .tup l => bindAll bs l env
  | _ => .stuck
def JGs (S : Sx) (k : Nat) (f : Fm) (es : List Expr) (idx : List Nat) (bs : List (Dv → En → R En)) : Prop :=
  (∀ e ∈ es, plainE e = true) ∧ bs.length = es.length ∧
  ∀ (X : Cx), Fit S k f X → ∀ (pins : List (Addr × Obj)) (s : Shared) (F0 H0 F H : Hp) (σ : Sg) (env e' : En) (vs : List V) (us : List Value) (ds : List Dv) (Q : Sg → Hp → Prop), EnvOk S F0 H0 F H σ env → Inv X pins σ H s → Vals vs us → RpL S F vs ds →
    bindAll bs ds env = .ok e' → (∀ σ', EnvOk S F0 H0 F H σ' e' → σ'.length = σ.length → (∀ (j : Nat), j ∉ idx → σ'[j]? = σ[j]?) → PvIn idx e' env → Q σ' H) → wpAny (model X.prog X.w) X.A (assignInOrder ((assignEach es X.env).map (·.2)) us) (fun _ s' => ∃ σ' H', Inv X pins σ' H' s' ∧ Q σ' H') X.xe s
theorem jgs_nil : JGs S k f [] [] [] := ⟨fun _ h => (by cases h), rfl, fun X fit pins s F0 H0 F H σ env e' vs us ds Q eo I r rp hb q => by
  cases rp with
  | nil =>
    cases r
    cases hb
    exact assignInOrder_nil ⟨σ, H, I, q σ eo rfl (fun _ _ => rfl) fun j l hl h => ⟨by simp, h⟩⟩
  | cons a b => cases hb⟩
theorem aeach_of {e : Expr} (h : plainE e = true) (es : List Expr) (env : Env) : assignEach (e :: es) env = (false, assign e env) :: assignEach es env := by
  cases e <;> first | rfl | cases h
theorem jgs_cons {e : Expr} {es : List Expr} {i1 i2 : List Nat} {b : Dv → En → R En} {bs : List (Dv → En → R En)} (h1 : JG S k f e i1 b) (h2 : JGs S k f es i2 bs) (h : plainE e = true := by rfl) : JGs S k f (e :: es) (i1 ++ i2) (b :: bs) :=
  ⟨fun e' he => by
    rcases List.mem_cons.mp he with q | q
    · rw [q]; exact h
    · exact h2.1 e' q, by rw [List.length_cons, List.length_cons, h2.2.1], fun X fit pins s F0 H0 F H σ env e' vs us ds Q eo I r rp hb q => by
    cases rp with
    | nil => cases hb
    | @cons v vs d ds r1 r2 =>
      cases r with
      | @cons _ u _ us ru rus =>
        rw [aeach_of h]
        simp only [bindAll] at hb
        cases hb1 : b d env with
        | stuck => rw [hb1] at hb; cases hb
        | err n => rw [hb1] at hb; cases hb
        | ok em =>
          rw [hb1] at hb
          refine assignInOrder_cons (thn (h1 X fit pins s F0 H0 F H σ env em v u d (fun σ1 H1 => H1 = H ∧ EnvOk S F0 H0 F H σ1 em ∧ σ1.length = σ.length ∧ (∀ (j : Nat), j ∉ i1 → σ1[j]? = σ[j]?) ∧ PvIn i1 em env) eo I ru r1 hb1 fun σ1 e1 l1 a1 p1 => ⟨rfl, e1, l1, a1, p1⟩) fun _ s1 hh => ?_)
          obtain ⟨σ1, H1, I1, rfl, e1, l1, a1, p1⟩ := hh
          exact h2.2.2 X fit pins s1 F0 H0 F H1 σ1 em e' vs us ds Q e1 I1 rus r2 hb fun σ2 e2 l2 a2 p2 => q σ2 e2 (l2.trans l1) (fun j hj => (a2 j fun z => hj (List.mem_append_right _ z)).trans (a1 j fun z => hj (List.mem_append_left _ z))) fun j l hl h =>
            ⟨fun z => (List.mem_append.mp z).elim (p1 j l hl (p2 j l hl h).2).1 (p2 j l hl h).1, (p1 j l hl (p2 j l hl h).2).2⟩⟩
theorem aeach_len {es : List Expr} (h : ∀ e ∈ es, plainE e = true) (env : Env) : (assignEach es env).length = es.length ∧ (assignEach es env).findIdx? (·.1) = none := by
  induction es with
  | nil => exact ⟨rfl, rfl⟩
  | cons e es ih =>
    obtain ⟨a, b⟩ := ih fun e' he => h e' (List.mem_cons_of_mem _ he)
    rw [aeach_of (h e List.mem_cons_self)]
    refine ⟨by rw [List.length_cons, List.length_cons, a], ?_⟩
    rw [List.findIdx?_cons]
    simp [b]
theorem bindAll_len : ∀ {bs : List (Dv → En → R En)} {ds : List Dv} {env e' : En}, bindAll bs ds env = .ok e' → ds.length = bs.length
  | [], [], _, _, _ => rfl
  | b :: bs, d :: ds, env, e', h => by
    simp only [bindAll] at h
    cases q : b d env with
    | ok e => rw [q] at h; rw [List.length_cons, List.length_cons, bindAll_len (bs := bs) h]
    | err n => rw [q] at h; cases h
    | stuck => rw [q] at h; cases h
  | [], _ :: _, _, _, h => by cases h
  | _ :: _, [], _, _, h => by cases h
theorem jg_t {es : List Expr} {n : Nat} {idx : List Nat} {bs : List (Dv → En → R En)} (h : JGs S k f es idx bs) : JG S k f (.Tuple es n pos) idx (tupM bs) := fun X fit pins s F0 H0 F H σ env e' v u d Q eo I r rp hb q => by
  cases rp with
  | @tup a xs ds ha ra =>
    cases r
    have hb' : bindAll bs ds env = .ok e' := hb
    obtain ⟨its, rv, ht, hz⟩ := I.tuple (SqT.of (K := X.K) (eo.g.fh _ _ ha))
    obtain ⟨l1, l2⟩ := aeach_len h.1 X.env
    refine assign_Tuple_tuple (I.ok.hd fit.calm) ht (by simp [l1, ← h.2.1, ← bindAll_len hb', ← ra.length, rv.length]) l2 fun h' hx => ?_
    have I1 : Inv X pins σ H { s with heap := h' } := I.kept (t' := s.toks) fun b o e => hx b o (Nat.ne_of_lt (Heap.lt_size e)) e
    exact h.2.2 X fit pins _ F0 H0 F H σ env e' xs _ ds Q eo I1 (by simpa using rv) ra hb' q
  | _ => cases hb
end

/-! ### what is walked -/
/-- J walks the data ds, from the worlds behind (F1, H1) on -/
def ItOk (S : Sx) (F1 H1 : Hp) (J : It) (ds : List Dv) : Prop := ds.length ≤ sizeLine ∧ ∀ (i : Nat) (F H : Hp), Grow F1 H1 F H →
  (∀ d, ds[i]? = some d → J.go i H ∧ ∀ x H', J.yld i H x H' → ∃ F', Grow F H F' H' ∧ Rp S F' x d) ∧ (ds.length ≤ i → J.stop i H)
/-- .. as long as what is shared at F1 is -/
def ItOkF (S : Sx) (F1 : Hp) (J : It) (ds : List Dv) : Prop := ds.length ≤ sizeLine ∧ ∀ (i : Nat) (F H : Hp), Ext F1 F → Ext F H →
  (∀ d, ds[i]? = some d → J.go i H ∧ ∀ x H', J.yld i H x H' → ∃ F', Grow F H F' H' ∧ Rp S F' x d) ∧ (ds.length ≤ i → J.stop i H)
theorem ItOkF.ok {S : Sx} {F1 H1 : Hp} {J : It} {ds : List Dv} (h : ItOkF S F1 J ds) : ItOk S F1 H1 J ds := ⟨h.1, fun i F H g => h.2 i F H g.ff g.fh⟩
section
variable {S : Sx} {k : Nat} {f : Fm} {p pos : Pos} {tg a b : Expr} {ma mb : En → R Dv}
/-- the widest reading of a walked thing -/
def rdi (X : Cx) (tg iter : Expr) : TI := fun σ H R => ∀ (pins : List (Addr × Obj)) (s : Shared), Inv X pins σ H s → wpAny (model X.prog X.w) X.A (eval iter X.env) (fun v s1 => wpAny (model X.prog X.w) X.A (pyIter v) (PIE X pins σ tg R) X.xe s1) X.xe s
theorem pi_rd {X : Cx} {iter : Expr} : PI X tg iter (rdi X tg iter) := ⟨fun pins s _ _ _ I h => h pins s I⟩
def PostI (S : Sx) (W : WX) (σ : Sg) (F H : Hp) (good : Hp → Hp → It → List Dv → Prop) (r : R (List Dv)) (Rw : It → Hp → Prop) : Prop := match r with
  | .ok ds => ∀ J F' H', Grow F H F' H' → good F' H' J ds → Rw J H'
  | .err x => ∀ c d F' H', Grow F H F' H' → ExcR S x c d → W c d σ H'
  | .stuck => False
def JIg (S : Sx) (k : Nat) (f : Fm) (good : Hp → Hp → It → List Dv → Prop) (tg iter : Expr) (m : En → R (List Dv)) : Prop :=
  ∀ (X : Cx) (W : WX), Fit S k f X → Takes X W → ∀ (F0 H0 F H : Hp) (σ : Sg) (env : En) (Rw : It → Hp → Prop), EnvOk S F0 H0 F H σ env → PostI S W σ F H good (m env) Rw → rdi X tg iter σ H Rw
abbrev JI (S : Sx) (k : Nat) (f : Fm) := JIg S k f (ItOk S)
abbrev JIF (S : Sx) (k : Nat) (f : Fm) := JIg S k f (fun F1 _ => ItOkF S F1)
theorem ji_f {iter : Expr} {m : En → R (List Dv)} (h : JIF S k f tg iter m) : JI S k f tg iter m := fun X W fit tk F0 H0 F H σ env Rw eo hp => h X W fit tk F0 H0 F H σ env Rw eo (by
  cases q : m env with
  | ok ds => rw [q] at hp; exact fun J F' H' g it => hp J F' H' g it.ok
  | err x => rw [q] at hp; exact hp
  | stuck => rw [q] at hp; exact hp)
theorem PostI.post {good : Hp → Hp → It → List Dv → Prop} {ga : Hp → Hp → Hp → V → Dv → Prop} {W : WX} {σ : Sg} {F H : Hp} {r : R Dv} {g : Dv → R (List Dv)} {Rw : It → Hp → Prop} (h : PostI S W σ F H good (r.bind g) Rw) {Q : VK}
    (q : ∀ x v F1 H1, r = .ok x → Grow F H F1 H1 → ga H F1 H1 v x → PostI S W σ F1 H1 good (g x) Rw → Q v H1) : Post S W σ F H ga r Q := by
  cases r with
  | ok x =>
    intro v F1 H1 g1 gd
    refine q x v F1 H1 rfl g1 gd ?_
    simp only [R.bind] at h
    cases e : g x with
    | ok ds => rw [e] at h; exact fun J F' H' g2 it => h J F' H' (g1.trans g2) it
    | err n => rw [e] at h; exact fun c d F' H' g2 ex => h c d F' H' (g1.trans g2) ex
    | stuck => rw [e] at h; exact h
  | err n => exact h
  | stuck => exact h
def seqD (x : Dv) : R (List Dv) := (itemsD x).bind fun l => if l.length ≤ lineP then .ok l else .stuck
theorem seqD_ok {x : Dv} {l : List Dv} (h : seqD x = .ok l) : itemsD x = .ok l ∧ l.length ≤ sizeLine := by
  unfold seqD at h
  cases q : itemsD x with
  | ok m =>
    rw [q] at h
    simp only [R.bind] at h
    split at h
    · rename_i z
      cases h
      exact ⟨rfl, lineP_le z⟩
    · cases h
  | err n => rw [q] at h; cases h
  | stuck => rw [q] at h; cases h
theorem seqD_noerr {x : Dv} (n : Nat) : seqD x ≠ .err n := fun h => by
  unfold seqD at h
  cases q : itemsD x with
  | ok m =>
    rw [q] at h
    simp only [R.bind] at h
    split at h <;> cases h
  | err n => exact itemsD_noerr n q
  | stuck => rw [q] at h; cases h
theorem itl_ok {K : PySem.W.Frag} {q : Addr} {vs : List V} {ds : List Dv} {i : Nat} {F H : Hp} (hp : H q = some (.lst vs)) (r : RpL S F vs ds) (e : Ext F H) :
    (∀ d, ds[i]? = some d → (Itl K q).go i H ∧ ∀ x H', (Itl K q).yld i H x H' → ∃ F', Grow F H F' H' ∧ Rp S F' x d) ∧ (ds.length ≤ i → (Itl K q).stop i H) := by
  refine ⟨fun d hd => ?_, fun hl => ⟨vs, SqL.of hp, by rw [r.length]; exact hl⟩⟩
  obtain ⟨v, hv, rv⟩ := r.get hd
  refine ⟨⟨vs, v, SqL.of hp, hv⟩, fun x H' y => ?_⟩
  obtain ⟨rfl, y⟩ := y
  have z := y vs (SqL.of hp)
  rw [hv] at z
  cases z
  exact ⟨F, Grow.refl e, rv⟩
theorem itt_ok {K : PySem.W.Frag} {q : Addr} {vs : List V} {ds : List Dv} {i : Nat} {F H : Hp} (hp : H q = some (.tup vs)) (r : RpL S F vs ds) (e : Ext F H) :
    (∀ d, ds[i]? = some d → (Itt K q).go i H ∧ ∀ x H', (Itt K q).yld i H x H' → ∃ F', Grow F H F' H' ∧ Rp S F' x d) ∧ (ds.length ≤ i → (Itt K q).stop i H) := by
  refine ⟨fun d hd => ?_, fun hl => ⟨vs, SqT.of hp, by rw [r.length]; exact hl⟩⟩
  obtain ⟨v, hv, rv⟩ := r.get hd
  refine ⟨⟨vs, v, SqT.of hp, hv⟩, fun x H' y => ?_⟩
  obtain ⟨rfl, y⟩ := y
  have z := y vs (SqT.of hp)
  rw [hv] at z
  cases z
  exact ⟨F, Grow.refl e, rv⟩
/-- a list or a tuple, looked at (a comprehension's source) -/
theorem ji_seq (ja : JB S k f a ma) : JI S k f tg a (fun env => (ma env).bind seqD) := fun X W fit tk F0 H0 F H σ env Rw eo hp pins s I => by
  dsimp only at hp
  cases q : ma env with
  | stuck => rw [q] at hp; exact hp.elim
  | err n =>
    refine (pi_list (tg := tg) pe_rd).run pins s σ H Rw I fun pins s I => ja X W fit tk pins s F0 H0 F H σ env _ eo I ?_
    rw [q] at hp ⊢
    exact hp
  | ok x =>
    rw [q] at hp
    simp only [R.bind] at hp
    cases q2 : seqD x with
    | stuck => rw [q2] at hp; exact hp.elim
    | err n => exact absurd q2 (seqD_noerr n)
    | ok l =>
      rw [q2] at hp
      obtain ⟨q3, hz⟩ := seqD_ok q2
      cases x with
      | lst l' =>
        cases q3
        refine (pi_list (tg := tg) pe_rd).run pins s σ H Rw I fun pins s I => ja X W fit tk pins s F0 H0 F H σ env _ eo I ?_
        rw [q]
        intro v F1 H1 g1 r1
        cases r1 with
        | sh r1 =>
          cases r1 with
          | @lst p vs _ hp1 r2 =>
            exact ⟨p, rfl, ⟨vs, SqL.of (g1.fh _ _ hp1)⟩, hp _ F1 H1 g1 ⟨hz, fun i F2 H2 g2 => itl_ok (g2.hh _ _ (g1.fh _ _ hp1)) (r2.mono g2.ff) g2.fh⟩⟩
        | @pv p vs _ fp hp1 r2 =>
          exact ⟨p, rfl, ⟨vs, SqL.of hp1⟩, hp _ F1 H1 g1 ⟨hz, fun i F2 H2 g2 => itl_ok (g2.hh _ _ hp1) (r2.mono g2.ff) g2.fh⟩⟩
      | tup l' =>
        cases q3
        refine (pi_tup (tg := tg) pe_rd).run pins s σ H Rw I fun pins s I => ja X W fit tk pins s F0 H0 F H σ env _ eo I ?_
        rw [q]
        intro v F1 H1 g1 r1
        obtain ⟨p, vs, rfl, fp, hp1, r2⟩ := r1.tupAt g1.fh
        exact ⟨p, rfl, ⟨vs, SqT.of hp1⟩, hp _ F1 H1 g1 ⟨hz, fun i F2 H2 g2 => itt_ok (g2.hh _ _ hp1) (r2.mono g2.ff) g2.fh⟩⟩
      | _ => cases q3
/-- .. shared (a loop's source) -/
theorem jif_seq (ja : JD S k f a ma) : JIF S k f tg a (fun env => (ma env).bind seqD) := fun X W fit tk F0 H0 F H σ env Rw eo hp pins s I => by
  dsimp only at hp
  cases q : ma env with
  | stuck => rw [q] at hp; exact hp.elim
  | err n =>
    refine (pi_list (tg := tg) pe_rd).run pins s σ H Rw I fun pins s I => ja X W fit tk pins s F0 H0 F H σ env _ eo I ?_
    rw [q] at hp ⊢
    exact hp
  | ok x =>
    rw [q] at hp
    simp only [R.bind] at hp
    cases q2 : seqD x with
    | stuck => rw [q2] at hp; exact hp.elim
    | err n => exact absurd q2 (seqD_noerr n)
    | ok l =>
      rw [q2] at hp
      obtain ⟨q3, hz⟩ := seqD_ok q2
      cases x with
      | lst l' =>
        cases q3
        refine (pi_list (tg := tg) pe_rd).run pins s σ H Rw I fun pins s I => ja X W fit tk pins s F0 H0 F H σ env _ eo I ?_
        rw [q]
        intro v F1 H1 g1 r1
        cases r1 with
        | @lst p vs _ hp1 r2 =>
          exact ⟨p, rfl, ⟨vs, SqL.of (g1.fh _ _ hp1)⟩, hp _ F1 H1 g1 ⟨hz, fun i F2 H2 e1 e2 => itl_ok (e2 _ _ (e1 _ _ hp1)) (r2.mono e1) e2⟩⟩
      | tup l' =>
        cases q3
        refine (pi_tup (tg := tg) pe_rd).run pins s σ H Rw I fun pins s I => ja X W fit tk pins s F0 H0 F H σ env _ eo I ?_
        rw [q]
        intro v F1 H1 g1 r1
        cases r1 with
        | @tup p vs _ hp1 r2 =>
          exact ⟨p, rfl, ⟨vs, SqT.of (g1.fh _ _ hp1)⟩, hp _ F1 H1 g1 ⟨hz, fun i F2 H2 e1 e2 => itt_ok (e2 _ _ (e1 _ _ hp1)) (r2.mono e1) e2⟩⟩
      | _ => cases q3
/-- ranges -/
def upTo (lo : Int) (n : Nat) : List Dv := (List.range n).map fun (i : Nat) => Dv.int (lo + (i : Int))
theorem upTo_len (lo : Int) (n : Nat) : (upTo lo n).length = n := by unfold upTo; rw [List.length_map, List.length_range]
theorem upTo_get {lo : Int} {n i : Nat} {d : Dv} (h : (upTo lo n)[i]? = some d) : i < n ∧ d = .int (lo + (i : Int)) := by
  unfold upTo at h
  rw [List.getElem?_map] at h
  by_cases hi : i < n
  · rw [List.getElem?_range hi] at h
    cases h
    exact ⟨hi, rfl⟩
  · rw [List.getElem?_eq_none (by rw [List.length_range]; omega)] at h
    cases h
def rng1D : Dv → R (List Dv)
  | .int n => if -1000000 ≤ n ∧ n ≤ 1000000 then .ok (upTo 0 n.toNat) else .stuck
  | _ => .stuck
def rng2D : Dv → Dv → R (List Dv)
  | .int a, .int b => if -1000000 ≤ a ∧ a ≤ 1000000 ∧ -1000000 ≤ b ∧ b ≤ 1000000 then .ok (upTo a (b - a).toNat) else .stuck
  | _, _ => .stuck
theorem itr_ok {lo : Int} {n : Nat} {F1 : Hp} (hn : n ≤ 2000000) : ItOkF S F1 (Itr lo n) (upTo lo n) := by
  refine ⟨Nat.le_trans (by rw [upTo_len]; exact hn) (by decide), fun i F H e1 e2 => ⟨fun d hd => ?_, fun hl => by rw [upTo_len] at hl; exact hl⟩⟩
  obtain ⟨hi, rfl⟩ := upTo_get hd
  refine ⟨hi, fun x H' y => ?_⟩
  obtain ⟨rfl, rfl⟩ := y
  exact ⟨F, Grow.refl e2, .int _⟩
theorem jif_rng1 (hn : S.mg "range" = none) (ja : JB S k f a ma) (h : plainE a = true := by rfl) (hg : glB f.sc "range" = true := by decide +kernel) : JIF S k f tg (.Call (.Name "range" p) [a] [] pos) (fun env => (ma env).bind rng1D) :=
  fun X W fit tk F0 H0 F H σ env Rw eo hp pins s I => by
  refine (pi_range1 (tg := tg) (glB_of fit hg).1 (by rw [fit.hm]; exact hn) (pa1 h) (by rw [star_of h]; rfl)).run pins s σ H Rw I fun pins s I => ja X W fit tk pins s F0 H0 F H σ env _ eo I ?_
  refine PostI.post hp fun x v F1 H1 ex g1 r1 hp1 => ?_
  cases x with
  | int n =>
    rw [r1.intAt]
    simp only [rng1D] at hp1
    split at hp1
    · rename_i z
      exact ⟨n, rfl, by omega, by omega, hp1 _ F1 H1 (Grow.refl g1.fh) (itr_ok (by omega))⟩
    · exact hp1.elim
  | _ => exact hp1.elim
theorem jif_rng2 (hn : S.mg "range" = none) (ja : JB S k f a ma) (jb : JB S k f b mb) (h : plainE a = true := by rfl) (h2 : plainE b = true := by rfl) (hg : glB f.sc "range" = true := by decide +kernel) :
    JIF S k f tg (.Call (.Name "range" p) [a, b] [] pos) (fun env => (ma env).bind fun x => (mb env).bind fun y => rng2D x y) :=
  fun X W fit tk F0 H0 F H σ env Rw eo hp pins s I => by
  refine (pi_range2 (tg := tg) (glB_of fit hg).1 (by rw [fit.hm]; exact hn) (pa2 h h2) (by rw [star_of h, star_of h2]; rfl) (by rw [star_of h2]; rfl)).run pins s σ H Rw I fun pins s I => ja X W fit tk pins s F0 H0 F H σ env _ eo I ?_
  refine PostI.post hp fun x v F1 H1 ex g1 r1 hp1 => ?_
  intro pins s I
  refine jb X W fit tk pins s F0 H0 F1 H1 σ env _ (eo.grow g1) I ?_
  refine PostI.post hp1 fun y u F2 H2 ey g2 r2 hp2 => ?_
  have r1' := RpB.grow r1 g2
  unfold rng2D at hp2
  split at hp2
  · rw [r1'.intAt, r2.intAt]
    split at hp2
    · rename_i i j z
      exact ⟨i, j, rfl, ⟨by omega, by omega, by omega, by omega⟩, hp2 _ F2 H2 (Grow.refl g2.fh) (itr_ok (by omega))⟩
    · exact hp2.elim
  · exact hp2.elim
/-- zip of two lists or two tuples -/
def zipL : List Dv → List Dv → List Dv
  | x :: xs, y :: ys => .tup [x, y] :: zipL xs ys
  | _, _ => []
theorem zipL_len : ∀ (xs ys : List Dv), (zipL xs ys).length = min xs.length ys.length
  | [], _ => by simp [zipL]
  | _ :: _, [] => by simp [zipL]
  | x :: xs, y :: ys => by
    rw [zipL, List.length_cons, zipL_len xs ys, List.length_cons, List.length_cons]
    omega
theorem zipL_get : ∀ {xs ys : List Dv} {i : Nat} {d : Dv}, (zipL xs ys)[i]? = some d → ∃ x y, xs[i]? = some x ∧ ys[i]? = some y ∧ d = .tup [x, y]
  | [], _, _, _, h => by simp [zipL] at h
  | _ :: _, [], _, _, h => by simp [zipL] at h
  | x :: xs, y :: ys, 0, d, h => by
    simp [zipL] at h
    exact ⟨x, y, rfl, rfl, h.symm⟩
  | x :: xs, y :: ys, i + 1, d, h => by
    obtain ⟨a, b, h1, h2, h3⟩ := zipL_get (xs := xs) (ys := ys) (i := i) (d := d) (by simpa [zipL] using h)
    exact ⟨a, b, by simpa using h1, by simpa using h2, h3⟩
def zipD : Dv → Dv → R (List Dv)
  | .lst x, .lst y => if x.length ≤ lineP then .ok (zipL x y) else .stuck
  | .tup x, .tup y => if x.length ≤ lineP then .ok (zipL x y) else .stuck
  | _, _ => .stuck
theorem jif_zip {elts : List Expr} {n : Nat} {tpos : Pos} (hn : S.mg "zip" = none) (ja : JD S k f a ma) (jb : JD S k f b mb) (h : plainE a = true := by rfl) (h2 : plainE b = true := by rfl) (hg : glB f.sc "zip" = true := by decide +kernel) :
    JIF S k f (.Tuple elts n tpos) (.Call (.Name "zip" p) [a, b] [] pos) (fun env => (ma env).bind fun x => (mb env).bind fun y => zipD x y) :=
  fun X W fit tk F0 H0 F H σ env Rw eo hp pins s I => by
  refine (RZ.pi_zipA (elts := elts) (kk := n) (tpos := tpos) (glB_of fit hg).1 (by rw [fit.hm]; exact hn) (pa2 h h2) (by rw [star_of h, star_of h2]) (plain_any (es := [b]) (fun e he => by rw [List.mem_singleton.mp he]; exact h2) pos X.env)).run pins s σ H Rw I fun pins s I => ja X W fit tk pins s F0 H0 F H σ env _ eo I ?_
  refine PostI.post hp fun x v F1 H1 ex g1 r1 hp1 => ?_
  intro pins s I
  refine jb X W fit tk pins s F0 H0 F1 H1 σ env _ (eo.grow g1) I ?_
  refine PostI.post hp1 fun y u F2 H2 ey g2 r2 hp2 => ?_
  have r1' : Rp S F2 v x := Rp.mono g2.ff r1
  unfold zipD at hp2
  split at hp2
  · split at hp2
    · rename_i xs ys z
      cases r1' with
      | @lst q vs _ ha ra =>
        cases r2 with
        | @lst q2 us _ hb rb =>
          refine ⟨q, q2, vs, us, rfl, .inl ⟨SqL.of (g2.fh _ _ ha), SqL.of (g2.fh _ _ hb), hp2 _ F2 H2 (Grow.refl g2.fh) ⟨?_, fun i F3 H3 e1 e2 => ⟨fun d hd => ?_, fun hl => ?_⟩⟩⟩⟩
          · rw [zipL_len]
            exact Nat.le_trans (Nat.min_le_left _ _) (lineP_le z)
          · obtain ⟨x, y, hx, hy, rfl⟩ := zipL_get hd
            obtain ⟨w1, h1, q1⟩ := ra.get hx
            obtain ⟨w2, h2, q2⟩ := rb.get hy
            have s1 : SqL X.K H3 q vs := SqL.of (e2 _ _ (e1 _ _ ha))
            have s2 := SqL.of (K := X.K) (e2 _ _ (e1 _ _ hb))
            refine ⟨⟨vs, us, w1, w2, s1, s2, h1, h2⟩, fun t H' yy => ?_⟩
            obtain ⟨T, z1, z2, rfl, hT, rfl, f1, f2⟩ := yy
            have k1 := f1 _ s1
            have k2 := f2 _ s2
            rw [h1] at k1
            rw [h2] at k2
            cases k1
            cases k2
            have fT : F3 T = none := Evl.fresh_back e2 hT
            exact ⟨_, Grow.new e2 hT, .tup upd_same (.cons (Rp.mono (e1.trans (Evl.Ex.new fT)) q1) (.cons (Rp.mono (e1.trans (Evl.Ex.new fT)) q2) .nil))⟩
          · rw [zipL_len] at hl
            refine ⟨vs, us, SqL.of (e2 _ _ (e1 _ _ ha)), SqL.of (e2 _ _ (e1 _ _ hb)), ?_⟩
            rw [ra.length, rb.length]
            omega
    · exact hp2.elim
  · split at hp2
    · rename_i xs ys z
      cases r1' with
      | @tup q vs _ ha ra =>
        cases r2 with
        | @tup q2 us _ hb rb =>
          refine ⟨q, q2, vs, us, rfl, .inr ⟨SqT.of (g2.fh _ _ ha), SqT.of (g2.fh _ _ hb), hp2 _ F2 H2 (Grow.refl g2.fh) ⟨?_, fun i F3 H3 e1 e2 => ⟨fun d hd => ?_, fun hl => ?_⟩⟩⟩⟩
          · rw [zipL_len]
            exact Nat.le_trans (Nat.min_le_left _ _) (lineP_le z)
          · obtain ⟨x, y, hx, hy, rfl⟩ := zipL_get hd
            obtain ⟨w1, h1, q1⟩ := ra.get hx
            obtain ⟨w2, h2, q2⟩ := rb.get hy
            have s1 : SqT X.K H3 q vs := SqT.of (e2 _ _ (e1 _ _ ha))
            have s2 := SqT.of (K := X.K) (e2 _ _ (e1 _ _ hb))
            refine ⟨⟨vs, us, w1, w2, s1, s2, h1, h2⟩, fun t H' yy => ?_⟩
            obtain ⟨T, z1, z2, rfl, hT, rfl, f1, f2⟩ := yy
            have k1 := f1 _ s1
            have k2 := f2 _ s2
            rw [h1] at k1
            rw [h2] at k2
            cases k1
            cases k2
            have fT : F3 T = none := Evl.fresh_back e2 hT
            exact ⟨_, Grow.new e2 hT, .tup upd_same (.cons (Rp.mono (e1.trans (Evl.Ex.new fT)) q1) (.cons (Rp.mono (e1.trans (Evl.Ex.new fT)) q2) .nil))⟩
          · rw [zipL_len] at hl
            refine ⟨vs, us, SqT.of (e2 _ _ (e1 _ _ ha)), SqT.of (e2 _ _ (e1 _ _ hb)), ?_⟩
            rw [ra.length, rb.length]
            omega
    · exact hp2.elim
  · exact hp2.elim
end
end Py
namespace Py
open PySem PySem.Spec PyProof.Rows L2

/-! ### blocks -/
def wipeE (env : En) : List Nat → En
  | [] => env
  | v :: vs => (wipeE env vs).set v none
theorem wipeE_len (env : En) : ∀ vs : List Nat, (wipeE env vs).length = env.length
  | [] => rfl
  | v :: vs => by unfold wipeE; rw [List.length_set, wipeE_len env vs]
theorem wipeE_some {env : En} {i : Nat} {x : Sl} : ∀ {vs : List Nat}, (wipeE env vs)[i]? = some (some x) → env[i]? = some (some x) ∧ i ∉ vs
  | [], h => ⟨h, by simp⟩
  | v :: vs, h => by
    unfold wipeE at h
    rcases En.set_at h with ⟨_, z⟩ | ⟨n, h⟩
    · cases z
    · obtain ⟨a, b⟩ := wipeE_some h
      exact ⟨a, fun z => (List.mem_cons.mp z).elim (fun q => n q.symm) b⟩
theorem wipe_in {σ : Sg} {i : Nat} : ∀ {vs : List Nat}, i ∈ vs → i < σ.length → (wipe σ vs)[i]? = some none
  | [], h, _ => by cases h
  | v :: vs, h, hl => by
    unfold wipe
    by_cases e : v = i
    · subst e
      rw [List.getElem?_set_self (by rw [wipe_length]; exact hl)]
    · rw [List.getElem?_set_ne e]
      exact wipe_in ((List.mem_cons.mp h).resolve_left fun z => e z.symm) hl
theorem wipe_eq {σ σ' : Sg} {vs : List Nat} (hl : σ'.length = σ.length) (h : ∀ j, j ∉ vs → σ'[j]? = σ[j]?) : wipe σ' vs = wipe σ vs := by
  refine List.ext_getElem? fun j => ?_
  by_cases m : j ∈ vs
  · by_cases q : j < σ.length
    · rw [wipe_in m q, wipe_in m (by rw [hl]; exact q)]
    · rw [List.getElem?_eq_none (by rw [wipe_length]; omega), List.getElem?_eq_none (by rw [wipe_length]; omega)]
  · rw [wipe_out m, wipe_out m]
    exact h j m
section
variable {S : Sx} {F0 H0 F H F' H' : Hp} {σ : Sg} {env : En}
theorem EnvOk.wipe (e : EnvOk S F0 H0 F H σ env) (vs : List Nat) : EnvOk S F0 H0 F H (wipe σ vs) (wipeE env vs) := by
  refine ⟨e.g, by rw [wipe_length, wipeE_len, e.len], fun j => ?_, fun j k l m p hl hm h1 h2 h3 h4 => ?_⟩
  · cases q : (wipeE env vs)[j]? with
    | none => cases (L2.wipe σ vs)[j]?.getD none <;> trivial
    | some y =>
      cases y with
      | none => cases (L2.wipe σ vs)[j]?.getD none <;> trivial
      | some y =>
        obtain ⟨a, b⟩ := wipeE_some q
        rw [wipe_out b]
        have z := e.slot j
        rw [a] at z
        exact z
  · exact e.dis j k l m p hl hm (wipeE_some h1).1 (wipeE_some h2).1 (wipe_some h3).1 (wipe_some h4).1
end
def Fm.blk (f : Fm) (scope : Scope) : Fm := ⟨f.N, relS scope f.sc, fun x => scope.names.lookup x == some .cell⟩
theorem Fit.blk {S : Sx} {k : Nat} {f : Fm} {X : Cx} (fit : Fit S k f X) {scope : Scope} (s : Shared) (H : Hp) (C : Addr) (cl : List (Str × Addr)) (fp : List Addr) : Fit S k (f.blk scope) (X.blk s H scope (compEnvC scope cl C X.env) fp) :=
  ⟨fit.hP, fit.hw, fit.hK, fit.hm, fit.hb, fit.hN, by show relS scope X.env.scope = _; rw [fit.hs]; rfl, rfl, fit.calm, fit.room, PassesOwn.never, fit.nd⟩
abbrev W0 : WX := fun _ _ _ _ => False
section
variable {S : Sx} {k : Nat} {f : Fm} {scope : Scope}
/-- the widest readings of a block's parts -/
def rdeB (X : Cx) (scope : Scope) (e : Expr) : TE := fun σ H Q => ∀ (s0 : Shared) (Hx : Hp) (C : Addr) (cl : List (Str × Addr)) (fp : List Addr), rd (X.blk s0 Hx scope (compEnvC scope cl C X.env) fp) e σ H Q
def rdiB (X : Cx) (scope : Scope) (tg e : Expr) : TI := fun σ H Q => ∀ (s0 : Shared) (Hx : Hp) (C : Addr) (cl : List (Str × Addr)) (fp : List Addr), rdi (X.blk s0 Hx scope (compEnvC scope cl C X.env) fp) tg e σ H Q
def rdgB (X : Cx) (scope : Scope) (tg : Expr) : TG := fun v σ H Q => ∀ (s0 : Shared) (Hx : Hp) (C : Addr) (cl : List (Str × Addr)) (fp : List Addr) (pins : List (Addr × Obj)) (s : Shared) (u : Value), Inv (X.blk s0 Hx scope (compEnvC scope cl C X.env) fp) pins σ H s → RelV v u →
  wpAny (model X.prog X.w) X.A (assign tg (compEnvC scope cl C X.env) u) (fun _ s' => ∃ σ' H', Inv (X.blk s0 Hx scope (compEnvC scope cl C X.env) fp) pins σ' H' s' ∧ Q σ' H') (fun _ _ => False) s
def rdts (X : Cx) (ifs : List Expr) : TT := fun σ H Q => ∀ (pins : List (Addr × Obj)) (s : Shared), Inv X pins σ H s →
  wpAny (model X.prog X.w) X.A (forIn ifs true fun c r => if r = true then do let ok ← isTrue c X.env (eval c X.env); pure (ForInStep.yield ok) else pure (ForInStep.yield r)) (TP X pins σ Q) X.xe s
def rdtB (X : Cx) (scope : Scope) (ifs : List Expr) : TT := fun σ H Q => ∀ (s0 : Shared) (Hx : Hp) (C : Addr) (cl : List (Str × Addr)) (fp : List Addr), rdts (X.blk s0 Hx scope (compEnvC scope cl C X.env) fp) ifs σ H Q
def JTs (S : Sx) (k : Nat) (f : Fm) (ifs : List Expr) (m : En → R Bool) : Prop :=
  ∀ (X : Cx) (W : WX), Fit S k f X → Takes X W → ∀ (F0 H0 F H : Hp) (σ : Sg) (env : En) (Q : Bool → Hp → Prop), EnvOk S F0 H0 F H σ env → PostT S W σ F H (m env) Q → rdts X ifs σ H Q
theorem jts_nil : JTs S k f [] (fun _ => .ok true) := fun X W fit tk F0 H0 F H σ env Q eo hp pins s I => pts_nil.run pins s σ H Q I (hp F H (Grow.refl eo.g.fh))
theorem jts_one {c : Expr} {t : En → R Bool} (h : JT S k f c t) : JTs S k f [c] t := fun X W fit tk F0 H0 F H σ env Q eo hp pins s I =>
  (pts_one pt_rd).run pins s σ H Q I fun pins s I => h X W fit tk pins s F0 H0 F H σ env Q eo I hp
end

/-! ### comprehensions of one clause -/
def compL (b : Dv → En → R En) (t : En → R Bool) (e : En → R Dv) (env : En) : List Dv → R (List Dv)
  | [] => .ok []
  | d :: ds => (b d env).bind fun em => (t em).bind fun c => if c = true then (e em).bind fun x => (compL b t e env ds).bind fun r => .ok (x :: r) else compL b t e env ds
theorem compL_len {b : Dv → En → R En} {t : En → R Bool} {e : En → R Dv} {env : En} : ∀ {ds r : List Dv}, compL b t e env ds = .ok r → r.length ≤ ds.length
  | [], r, h => by cases h; exact Nat.le_refl _
  | d :: ds, r, h => by
    simp only [compL] at h
    cases h1 : b d env with
    | stuck => rw [h1] at h; cases h
    | err n => rw [h1] at h; cases h
    | ok em =>
      rw [h1] at h
      simp only [R.bind] at h
      cases h2 : t em with
      | stuck => rw [h2] at h; cases h
      | err n => rw [h2] at h; cases h
      | ok c =>
        rw [h2] at h
        simp only [] at h
        cases c with
        | false =>
          rw [if_neg Bool.false_ne_true] at h
          exact Nat.le_succ_of_le (compL_len h)
        | true =>
          rw [if_pos rfl] at h
          cases h3 : e em with
          | stuck => rw [h3] at h; cases h
          | err n => rw [h3] at h; cases h
          | ok x =>
            rw [h3] at h
            simp only [] at h
            cases h4 : compL b t e env ds with
            | stuck => rw [h4] at h; cases h
            | err n => rw [h4] at h; cases h
            | ok q =>
              rw [h4] at h
              cases h
              exact Nat.succ_le_succ (compL_len h4)
/-- the new list d, apart from the slots -/
theorem Grow.aside {F1 H1 F H : Hp} (g : Grow F1 H1 F H) {D : Addr} {o : HO} (h1 : H1 D = none) (fd : F D = none) : Grow F1 H1 F (upd H D o) := by
  refine ⟨g.ff, fun a u e => ?_, fun a u e => ?_, g.fz⟩
  · rw [upd_ne fun z => by rw [z, h1] at e; cases e]
    exact g.hh a u e
  · rw [upd_ne fun z => by rw [z, fd] at e; cases e]
    exact g.fh a u e
section
variable {S : Sx} {k : Nat} {f : Fm} {scope : Scope} {tg iter elt : Expr} {ifs : List Expr} {pos : Pos} {own : List (Str × Nat)} {idx : List Nat} {mi : En → R (List Dv)} {b : Dv → En → R En} {t : En → R Bool} {m : En → R Dv}
def inB (idx : List Nat) (own : List (Str × Nat)) : Bool := idx.all fun i => (own.map (·.2)).contains i
theorem inB_of {idx : List Nat} {own : List (Str × Nat)} (h : inB idx own = true) : ∀ i, i ∈ idx → i ∈ own.map (·.2) := fun i hi => by
  have z := List.all_eq_true.mp h i hi
  simpa using z
theorem lc_run (hx : inB idx own = true) (ji : JI S k f tg iter mi) (jg : JG S k (f.blk scope) tg idx b) (jt : JTs S k (f.blk scope) ifs t) (je : JD S k (f.blk scope) elt m)
    {X : Cx} {W : WX} (fit : Fit S k f X) (tk : Takes X W) {F0 H0 F H : Hp} {σ : Sg} {env : En} {Q : VK} (eo : EnvOk S F0 H0 F H σ env)
    (hp : Post S W σ F H (gL S) ((mi env).bind fun ds => (compL b t m (wipeE env (own.map (·.2))) ds).calm) Q) :
    tLc (rdi X tg iter) (rdgB X scope tg) (rdtB X scope ifs) (rdeB X scope elt) (own.map (·.2)) σ H Q := by
  refine ji X W fit tk F0 H0 F H σ env _ eo ?_
  cases q : mi env with
  | stuck => rw [q] at hp; exact hp.elim
  | err n => rw [q] at hp; exact hp
  | ok ds =>
    rw [q] at hp
    intro J F1 H1 g1 it D hD
    cases q2 : compL b t m (wipeE env (own.map (·.2))) ds with
    | stuck => simp only [R.bind, q2, R.calm] at hp; exact hp.elim
    | err n => simp only [R.bind, q2, R.calm] at hp; exact hp.elim
    | ok out =>
      simp only [R.bind, q2, R.calm] at hp
      have F1D : F1 D = none := Evl.fresh_back g1.fh hD
      have hlen := compL_len q2
      refine ⟨fun i n H => n = ds.length - i ∧ i ≤ ds.length ∧ ∃ F acc done r, Grow F1 H1 F H ∧ F D = none ∧ H D = some (.lst acc) ∧ RpL S F acc done ∧ compL b t m (wipeE env (own.map (·.2))) (ds.drop i) = .ok r ∧ out = done ++ r,
        ⟨ds.length, by simp, Nat.zero_le _, F1, [], [], out, Grow.mine g1.fh hD, F1D, upd_same, .nil, by simpa using q2, rfl⟩, ?_⟩
      rintro i n H2 ⟨rfl, hi, F2, acc, done, r, g2, f2, d2, rl, cq, ho⟩
      by_cases hlt : i < ds.length
      · right
        have hd : ds[i]? = some ds[i] := List.getElem?_eq_getElem hlt
        rw [List.drop_eq_getElem_cons hlt] at cq
        obtain ⟨go, yl⟩ := (it.2 i F2 H2 g2).1 _ hd
        refine ⟨go, fun H' => ∃ F acc done r, Grow F1 H1 F H' ∧ F D = none ∧ H' D = some (.lst acc) ∧ RpL S F acc done ∧ compL b t m (wipeE env (own.map (·.2))) (ds.drop (i + 1)) = .ok r ∧ out = done ++ r,
          fun H' hN => ⟨ds.length - (i + 1), by omega, rfl, hlt, hN⟩, fun x H3 y => ?_⟩
        obtain ⟨F3, g3, rx⟩ := yl x H3 y
        have g13 := g2.trans g3
        have f3 : F3 D = none := (g3.fz D (by rw [d2]; intro z; cases z)).trans f2
        have d3 : H3 D = some (.lst acc) := g3.hh D _ d2
        have e3 : EnvOk S F0 H0 F3 H3 (wipe σ (own.map (·.2))) (wipeE env (own.map (·.2))) := (eo.grow (g1.trans g13)).wipe _
        simp only [compL] at cq
        cases h1 : b ds[i] (wipeE env (own.map (·.2))) with
        | stuck => rw [h1] at cq; cases cq
        | err n => rw [h1] at cq; cases cq
        | ok em =>
          rw [h1] at cq
          simp only [R.bind] at cq
          intro s0 Hx C cl fp pins s u I ru
          have fb := fit.blk (scope := scope) s0 Hx C cl fp
          refine jg _ fb pins s F0 H0 F3 H3 _ _ em x u ds[i] _ e3 I ru rx h1 fun σ4 e4 l4 a4 p4 => ⟨?_, ?_⟩
          · rw [wipe_eq l4 fun j hj => a4 j fun z => hj (inB_of hx j z)]
            exact wipe_eq (wipe_length _ _) fun j hj => wipe_out hj
          intro s0 Hx C cl fp
          have fb := fit.blk (scope := scope) s0 Hx C cl fp
          refine jt _ W0 fb takes0 F0 H0 F3 H3 σ4 em _ e4 ?_
          cases h2 : t em with
          | stuck => rw [h2] at cq; cases cq
          | err n => rw [h2] at cq; cases cq
          | ok c =>
            rw [h2] at cq
            simp only [] at cq
            intro F5 H5 g5
            have f5 : F5 D = none := (g5.fz D (by rw [d3]; intro z; cases z)).trans f3
            have d5 : H5 D = some (.lst acc) := g5.hh D _ d3
            cases c with
            | false =>
              rw [if_neg Bool.false_ne_true] at cq
              rw [if_neg Bool.false_ne_true]
              exact ⟨F5, acc, done, r, g13.trans g5, f5, d5, rl.mono (g3.ff.trans g5.ff), cq, ho⟩
            | true =>
              rw [if_pos rfl] at cq
              rw [if_pos rfl]
              intro s0 Hx C cl fp pins s I
              have fb := fit.blk (scope := scope) s0 Hx C cl fp
              refine je _ W0 fb takes0 pins s F0 H0 F5 H5 σ4 em _ (e4.grow g5) I ?_
              cases h3 : m em with
              | stuck => rw [h3] at cq; cases cq
              | err n => rw [h3] at cq; cases cq
              | ok y =>
                rw [h3] at cq
                simp only [] at cq
                intro v F6 H6 g6 rv
                have f6 : F6 D = none := (g6.fz D (by rw [d5]; intro z; cases z)).trans f5
                have d6 : H6 D = some (.lst acc) := g6.hh D _ d5
                cases h4 : compL b t m (wipeE env (own.map (·.2))) (ds.drop (i + 1)) with
                | stuck => rw [h4] at cq; cases cq
                | err n => rw [h4] at cq; cases cq
                | ok r' =>
                  rw [h4] at cq
                  cases cq
                  have rl6 := rl.mono (g3.ff.trans (g5.ff.trans g6.ff))
                  refine ⟨acc, d6, ?_, F6, acc ++ [v], done ++ [y], r', ((g13.trans g5).trans g6).aside hD f6, f6, upd_same, rl6.app (.cons rv .nil), rfl, by rw [ho, List.append_assoc]; rfl⟩
                  have z1 : acc.length = done.length := rl.length
                  have z2 : out.length = done.length + (r'.length + 1) := by rw [ho, List.length_append, List.length_cons]
                  have z3 := it.1
                  omega
      · left
        have hi' : i = ds.length := by omega
        subst hi'
        rw [List.drop_length] at cq
        cases cq
        refine ⟨(it.2 _ F2 H2 g2).2 (Nat.le_refl _), hp (.ref D) F2 H2 (g1.trans g2) ⟨D, acc, rfl, Evl.fresh_back g1.hh hD, f2, d2, ?_⟩⟩
        rw [ho, List.append_nil]
        exact rl
theorem pgB {X : Cx} {tg : Expr} (s : Shared) (H : Hp) (C : Addr) (cl : List (Str × Addr)) (fp : List Addr) : PG (X.blk s H scope (compEnvC scope cl C X.env) fp) tg (rdgB X scope tg) := ⟨fun pins s σ H v u Q I r h => h _ _ _ _ _ pins s u I r⟩
theorem ptB {X : Cx} {ifs : List Expr} (s : Shared) (H : Hp) (C : Addr) (cl : List (Str × Addr)) (fp : List Addr) : PTs (X.blk s H scope (compEnvC scope cl C X.env) fp) ifs (rdtB X scope ifs) := ⟨fun pins s σ H Q I h => h _ _ _ _ _ pins s I⟩
theorem peB {X : Cx} {e : Expr} (s : Shared) (H : Hp) (C : Addr) (cl : List (Str × Addr)) (fp : List Addr) : PE (X.blk s H scope (compEnvC scope cl C X.env) fp) e (rdeB X scope e) := ⟨fun pins s σ H Q I h => h _ _ _ _ _ pins s I⟩
theorem piB {X : Cx} {tg e : Expr} (s : Shared) (H : Hp) (C : Addr) (cl : List (Str × Addr)) (fp : List Addr) : PI (X.blk s H scope (compEnvC scope cl C X.env) fp) tg e (rdiB X scope tg e) := ⟨fun pins s σ H Q I h => h _ _ _ _ _ pins s I⟩
/-- the mirror of a comprehension -/
def compM (mi : En → R (List Dv)) (vs : List Nat) (b : Dv → En → R En) (t : En → R Bool) (m : En → R Dv) : En → R (List Dv) := fun env => (mi env).bind fun ds => (compL b t m (wipeE env vs) ds).calm
theorem jl_comp {own : List (Str × Nat)} (ji : JI S k f tg iter mi) (jg : JG S k (f.blk scope) tg idx b) (jt : JTs S k (f.blk scope) ifs t) (je : JD S k (f.blk scope) elt m)
    (hx : inB idx own = true := by decide +kernel) (ok : blkC f.N f.sc scope own = true := by decide +kernel) (hs : ∀ env x, foldedSetIterable iter env x = pure x := by intro _ _; rfl) :
    JL S k f (.ListComp elt [⟨tg, iter, ifs, 0⟩] scope pos) (compM mi (own.map (·.2)) b t m) := j_pe fun X W fit tk =>
  ⟨_, pe_lc (own := own) fit.calm (by rw [fit.hN]; exact fit.nd) pi_rd (blkOk_by (by rw [fit.hN, fit.hs]; exact ok)) pgB ptB peB (hs X.env), fun F0 H0 F H σ env Q eo hp => lc_run hx ji jg jt je fit tk eo hp⟩
end
end Py
namespace Py
open PySem PySem.Spec PyProof.Rows L2

/-! ### comprehensions of two clauses -/
def comp2 (b1 : Dv → En → R En) (t1 : En → R Bool) (s2 : En → R (List Dv)) (vs1 : List Nat) (b2 : Dv → En → R En) (t2 : En → R Bool) (e : En → R Dv) (env : En) : List Dv → R (List Dv)
  | [] => .ok []
  | d :: ds => (b1 d env).bind fun em => (t1 em).bind fun c => if c = true then (s2 em).bind fun l => (compL b2 t2 e (wipeE em vs1) l).bind fun r => (comp2 b1 t1 s2 vs1 b2 t2 e env ds).bind fun q => .ok (r ++ q) else comp2 b1 t1 s2 vs1 b2 t2 e env ds
def capL (l : List Dv) : R (List Dv) := if l.length ≤ lineP then .ok l else .stuck
theorem capL_ok {l r : List Dv} (h : capL l = .ok r) : r = l ∧ l.length ≤ sizeLine := by
  unfold capL at h
  split at h
  · rename_i z
    cases h
    exact ⟨rfl, lineP_le z⟩
  · cases h
theorem R.bind_ok {α β : Type} {r : R α} {g : α → R β} {y : β} (h : r.bind g = .ok y) : ∃ x, r = .ok x ∧ g x = .ok y := by
  cases r with
  | ok x => exact ⟨x, rfl, h⟩
  | err n => cases h
  | stuck => cases h
theorem R.calm_ok {α : Type} {r : R α} {y : α} (h : r.calm = .ok y) : r = .ok y := by
  cases r with
  | ok x => exact h
  | err n => cases h
  | stuck => cases h
section
variable {S : Sx} {k : Nat} {f : Fm} {scope : Scope} {tg iter tg1 iter1 elt : Expr} {ifs ifs1 : List Expr} {pos : Pos} {own : List (Str × Nat)} {idx idx1 vs1 : List Nat} {mi mi1 : En → R (List Dv)} {b b1 : Dv → En → R En} {t t1 : En → R Bool} {m : En → R Dv}
def compM2 (mi : En → R (List Dv)) (vs : List Nat) (b1 : Dv → En → R En) (t1 : En → R Bool) (s2 : En → R (List Dv)) (vs1 : List Nat) (b2 : Dv → En → R En) (t2 : En → R Bool) (e : En → R Dv) : En → R (List Dv) :=
  fun env => (mi env).bind fun ds => ((comp2 b1 t1 s2 vs1 b2 t2 e (wipeE env vs) ds).bind capL).calm
theorem post_calm {α : Type} {W : WX} {σ : Sg} {F H : Hp} {good : Hp → Hp → Hp → V → α → Prop} {r : R α} {Q : VK} (hp : Post S W σ F H good r.calm Q) : ∃ x, r = .ok x := by
  cases r with
  | ok x => exact ⟨x, rfl⟩
  | err n => exact hp.elim
  | stuck => exact hp.elim
theorem lc2_run (hx : inB idx own = true) (hx1 : (idx1.all fun i => vs1.contains i) = true) (ji : JI S k f tg iter mi) (jg : JG S k (f.blk scope) tg idx b) (jt : JTs S k (f.blk scope) ifs t) (ji1 : JIF S k (f.blk scope) tg1 iter1 mi1) (jg1 : JG S k (f.blk scope) tg1 idx1 b1) (jt1 : JTs S k (f.blk scope) ifs1 t1) (je : JD S k (f.blk scope) elt m)
    {X : Cx} {W : WX} (fit : Fit S k f X) (tk : Takes X W) {F0 H0 F H : Hp} {σ : Sg} {env : En} {Q : VK} (eo : EnvOk S F0 H0 F H σ env)
    (hp : Post S W σ F H (gL S) (compM2 mi (own.map (·.2)) b t mi1 vs1 b1 t1 m env) Q) :
    tLc2 (rdi X tg iter) (rdgB X scope tg) (rdtB X scope ifs) (rdiB X scope tg1 iter1) (rdgB X scope tg1) (rdtB X scope ifs1) (rdeB X scope elt) (own.map (·.2)) vs1 σ H Q := by
  have hx1' : ∀ i, i ∈ idx1 → i ∈ vs1 := fun i hi => by
    have z := List.all_eq_true.mp hx1 i hi
    simpa using z
  refine ji X W fit tk F0 H0 F H σ env _ eo ?_
  unfold compM2 at hp
  cases q : mi env with
  | stuck => rw [q] at hp; exact hp.elim
  | err n => rw [q] at hp; exact hp
  | ok ds =>
    rw [q] at hp
    intro J F1 H1 g1 it D hD
    have F1D : F1 D = none := Evl.fresh_back g1.fh hD
    replace hp : Post S W σ F H (gL S) (((comp2 b t mi1 vs1 b1 t1 m (wipeE env (own.map (·.2))) ds).bind capL).calm) Q := hp
    obtain ⟨out, hout⟩ := post_calm hp
    obtain ⟨out', q2, hc⟩ := R.bind_ok hout
    obtain ⟨e, hlen⟩ := capL_ok hc
    subst e
    have hp' : Post S W σ F H (gL S) (.ok out) Q := by
      have z : ((comp2 b t mi1 vs1 b1 t1 m (wipeE env (own.map (·.2))) ds).bind capL).calm = .ok out := by rw [q2]; show (capL out).calm = _; rw [hc]; rfl
      rw [← z]
      exact hp
    clear hp hout hc
    refine ⟨fun i n H => n = ds.length - i ∧ i ≤ ds.length ∧ ∃ F acc done r, Grow F1 H1 F H ∧ F D = none ∧ H D = some (.lst acc) ∧ RpL S F acc done ∧ comp2 b t mi1 vs1 b1 t1 m (wipeE env (own.map (·.2))) (ds.drop i) = .ok r ∧ out = done ++ r,
      ⟨ds.length, by simp, Nat.zero_le _, F1, [], [], out, Grow.mine g1.fh hD, F1D, upd_same, .nil, by simpa using q2, rfl⟩, ?_⟩
    rintro i n H2 ⟨rfl, hi, F2, acc, done, r, g2, f2, d2, rl, cq, ho⟩
    by_cases hlt : i < ds.length
    · right
      have hd : ds[i]? = some ds[i] := List.getElem?_eq_getElem hlt
      rw [List.drop_eq_getElem_cons hlt] at cq
      obtain ⟨go, yl⟩ := (it.2 i F2 H2 g2).1 _ hd
      refine ⟨go, fun H' => ∃ F acc done r, Grow F1 H1 F H' ∧ F D = none ∧ H' D = some (.lst acc) ∧ RpL S F acc done ∧ comp2 b t mi1 vs1 b1 t1 m (wipeE env (own.map (·.2))) (ds.drop (i + 1)) = .ok r ∧ out = done ++ r,
        fun H' hN => ⟨ds.length - (i + 1), by omega, rfl, hlt, hN⟩, fun x H3 y => ?_⟩
      obtain ⟨F3, g3, rx⟩ := yl x H3 y
      have g13 := g2.trans g3
      have f3 : F3 D = none := (g3.fz D (by rw [d2]; intro z; cases z)).trans f2
      have d3 : H3 D = some (.lst acc) := g3.hh D _ d2
      have e3 : EnvOk S F0 H0 F3 H3 (wipe σ (own.map (·.2))) (wipeE env (own.map (·.2))) := (eo.grow (g1.trans g13)).wipe _
      simp only [comp2] at cq
      obtain ⟨em, h1, cq⟩ := R.bind_ok cq
      obtain ⟨c, h2, cq⟩ := R.bind_ok cq
      intro s0 Hx C cl fp pins s u I ru
      have fb := fit.blk (scope := scope) s0 Hx C cl fp
      refine jg _ fb pins s F0 H0 F3 H3 _ _ em x u ds[i] _ e3 I ru rx h1 fun σ4 e4 l4 a4 p4 => ⟨?_, ?_⟩
      · rw [wipe_eq l4 fun j hj => a4 j fun z => hj (inB_of hx j z)]
        exact wipe_eq (wipe_length _ _) fun j hj => wipe_out hj
      intro s0 Hx C cl fp
      have fb := fit.blk (scope := scope) s0 Hx C cl fp
      refine jt _ W0 fb takes0 F0 H0 F3 H3 σ4 em _ e4 ?_
      rw [h2]
      intro F5 H5 g5
      have f5 : F5 D = none := (g5.fz D (by rw [d3]; intro z; cases z)).trans f3
      have d5 : H5 D = some (.lst acc) := g5.hh D _ d3
      cases c with
      | false =>
        rw [if_neg Bool.false_ne_true] at cq
        rw [if_neg Bool.false_ne_true]
        exact ⟨F5, acc, done, r, g13.trans g5, f5, d5, rl.mono (g3.ff.trans g5.ff), cq, ho⟩
      | true =>
        rw [if_pos rfl] at cq
        rw [if_pos rfl]
        obtain ⟨l, h3, cq⟩ := R.bind_ok cq
        obtain ⟨r1, h4, cq⟩ := R.bind_ok cq
        obtain ⟨r2, h5, cq⟩ := R.bind_ok cq
        cases cq
        intro s0 Hx C cl fp
        have fb := fit.blk (scope := scope) s0 Hx C cl fp
        refine ji1 _ W0 fb takes0 F0 H0 F5 H5 σ4 em _ (e4.grow g5) ?_
        rw [h3]
        intro J1 F6 H6 g6 it1
        have f6 : F6 D = none := (g6.fz D (by rw [d5]; intro z; cases z)).trans f5
        have d6 : H6 D = some (.lst acc) := g6.hh D _ d5
        have g16 := (g13.trans g5).trans g6
        have rl6 := rl.mono (g3.ff.trans (g5.ff.trans g6.ff))
        have ap4 : Apart σ4 em D := fun j m hm h z => by
          obtain ⟨n, h'⟩ := p4 j m hm h
          rw [a4 j n] at z
          exact ((eo.grow g1).wipe (own.map (·.2))).new hD j m hm h' z
        refine ⟨fun j n H => n = l.length - j ∧ j ≤ l.length ∧ ∃ F acc done r, Grow F1 H1 F H ∧ Ext F6 F ∧ F D = none ∧ H D = some (.lst acc) ∧ RpL S F acc done ∧ compL b1 t1 m (wipeE em vs1) (l.drop j) = .ok r ∧ out = done ++ (r ++ r2) ∧ EnvOk S F0 H0 F H σ4 em,
          ⟨l.length, by simp, Nat.zero_le _, F6, acc, done, r1, g16, Evl.Ex.refl F6, f6, d6, rl6, by simpa using h4, ho, (e4.grow g5).grow g6⟩, ?_⟩
        rintro j n H7 ⟨rfl, hj, F7, acc7, done7, r7, g7, x7, f7, d7, rl7, cq7, ho7, e7⟩
        by_cases hlt1 : j < l.length
        · right
          have hd1 : l[j]? = some l[j] := List.getElem?_eq_getElem hlt1
          rw [List.drop_eq_getElem_cons hlt1] at cq7
          obtain ⟨go1, yl1⟩ := (it1.2 j F7 H7 x7 g7.fh).1 _ hd1
          refine ⟨go1, fun H' => ∃ F acc done r, Grow F1 H1 F H' ∧ Ext F6 F ∧ F D = none ∧ H' D = some (.lst acc) ∧ RpL S F acc done ∧ compL b1 t1 m (wipeE em vs1) (l.drop (j + 1)) = .ok r ∧ out = done ++ (r ++ r2) ∧ EnvOk S F0 H0 F H' σ4 em,
            fun H' hN => ⟨l.length - (j + 1), by omega, rfl, hlt1, hN⟩, fun x1 H8 y1 => ?_⟩
          obtain ⟨F8, g8, rx1⟩ := yl1 x1 H8 y1
          have f8 : F8 D = none := (g8.fz D (by rw [d7]; intro z; cases z)).trans f7
          have d8 : H8 D = some (.lst acc7) := g8.hh D _ d7
          have e8 := e7.grow g8
          simp only [compL] at cq7
          obtain ⟨en, k1, cq7⟩ := R.bind_ok cq7
          obtain ⟨c1, k2, cq7⟩ := R.bind_ok cq7
          intro s0 Hx C cl fp pins s u I ru
          have fb := fit.blk (scope := scope) s0 Hx C cl fp
          refine jg1 _ fb pins s F0 H0 F8 H8 _ _ en x1 u l[j] _ (e8.wipe vs1) I ru rx1 k1 fun σ9 e9 l9 a9 p9 => ⟨?_, ?_⟩
          · rw [wipe_eq l9 fun j hj => a9 j fun z => hj (hx1' j z)]
            exact wipe_eq (wipe_length _ _) fun j hj => wipe_out hj
          intro s0 Hx C cl fp
          have fb := fit.blk (scope := scope) s0 Hx C cl fp
          refine jt1 _ W0 fb takes0 F0 H0 F8 H8 σ9 en _ e9 ?_
          rw [k2]
          intro F10 H10 g10
          have f10 : F10 D = none := (g10.fz D (by rw [d8]; intro z; cases z)).trans f8
          have d10 : H10 D = some (.lst acc7) := g10.hh D _ d8
          cases c1 with
          | false =>
            rw [if_neg Bool.false_ne_true] at cq7
            rw [if_neg Bool.false_ne_true]
            exact ⟨F10, acc7, done7, r7, (g7.trans g8).trans g10, x7.trans (g8.ff.trans g10.ff), f10, d10, rl7.mono (g8.ff.trans g10.ff), cq7, ho7, e8.grow g10⟩
          | true =>
            rw [if_pos rfl] at cq7
            rw [if_pos rfl]
            obtain ⟨y, k3, cq7⟩ := R.bind_ok cq7
            obtain ⟨r8, k4, cq7⟩ := R.bind_ok cq7
            cases cq7
            intro s0 Hx C cl fp pins s I
            have fb := fit.blk (scope := scope) s0 Hx C cl fp
            refine je _ W0 fb takes0 pins s F0 H0 F10 H10 σ9 en _ (e9.grow g10) I ?_
            rw [k3]
            intro v F11 H11 g11 rv
            have f11 : F11 D = none := (g11.fz D (by rw [d10]; intro z; cases z)).trans f10
            have d11 : H11 D = some (.lst acc7) := g11.hh D _ d10
            have gA := ((g7.trans g8).trans g10).trans g11
            have rlA := rl7.mono (g8.ff.trans (g10.ff.trans g11.ff))
            have eA := (e8.grow g10).grow g11
            have D0 : H0 D = none := by
              cases z : H0 D with
              | none => rfl
              | some o => exact absurd hD (Ext.there g1.hh (eo.g.he D (by rw [z]; intro w; cases w)))
            refine ⟨acc7, d11, ?_, F11, acc7 ++ [v], done7 ++ [y], r8, gA.aside hD f11, x7.trans (g8.ff.trans (g10.ff.trans g11.ff)), f11, upd_same, rlA.app (.cons rv .nil), k4, by rw [ho7, List.append_assoc]; rfl, ?_⟩
            · have z1 : acc7.length = done7.length := rl7.length
              have z2 : out.length = done7.length + (r8.length + 1 + r2.length) := by rw [ho7, List.length_append, List.length_append, List.length_cons]
              omega
            · exact eA.aside D0 f11 ap4
        · left
          have hj' : j = l.length := by omega
          subst hj'
          rw [List.drop_length] at cq7
          cases cq7
          exact ⟨(it1.2 _ F7 H7 x7 g7.fh).2 (Nat.le_refl _), F7, acc7, done7, r2, g7, f7, d7, rl7, h5, by rw [ho7]; rfl⟩
    · left
      have hi' : i = ds.length := by omega
      subst hi'
      rw [List.drop_length] at cq
      cases cq
      refine ⟨(it.2 _ F2 H2 g2).2 (Nat.le_refl _), hp' (.ref D) F2 H2 (g1.trans g2) ⟨D, acc, rfl, Evl.fresh_back g1.hh hD, f2, d2, ?_⟩⟩
      rw [ho, List.append_nil]
      exact rl
theorem jl_comp2 {own : List (Str × Nat)} {vs1 : List Nat} (ji : JI S k f tg iter mi) (jg : JG S k (f.blk scope) tg idx b) (jt : JTs S k (f.blk scope) ifs t) (ji1 : JIF S k (f.blk scope) tg1 iter1 mi1) (jg1 : JG S k (f.blk scope) tg1 idx1 b1) (jt1 : JTs S k (f.blk scope) ifs1 t1) (je : JD S k (f.blk scope) elt m)
    (hx : inB idx own = true := by decide +kernel) (hx1 : (idx1.all fun i => vs1.contains i) = true := by decide +kernel) (hv : inB vs1 own = true := by decide +kernel) (ok : blkC f.N f.sc scope own = true := by decide +kernel) (hs : ∀ env x, foldedSetIterable iter env x = pure x := by intro _ _; rfl) (hs1 : ∀ env x, foldedSetIterable iter1 env x = pure x := by intro _ _; rfl) :
    JL S k f (.ListComp elt [⟨tg, iter, ifs, 0⟩, ⟨tg1, iter1, ifs1, 0⟩] scope pos) (compM2 mi (own.map (·.2)) b t mi1 vs1 b1 t1 m) := j_pe fun X W fit tk =>
  ⟨_, pe_lc2 (own := own) (vs1 := vs1) fit.calm (by rw [fit.hN]; exact fit.nd) pi_rd (blkOk_by (by rw [fit.hN, fit.hs]; exact ok)) (inB_of hv) pgB ptB piB pgB ptB peB (hs X.env) hs1, fun F0 H0 F H σ env Q eo hp => lc2_run hx hx1 ji jg jt ji1 jg1 jt1 je fit tk eo hp⟩
end

/-! ### expressions that change private slots -/
structure GrowE (σ : Sg) (env : En) (F H F' H' : Hp) : Prop where
  ff : Ext F F'
  fh : Ext F' H'
  hh : ∀ (a : Addr) (o : HO), Apart σ env a → H a = some o → H' a = some o
  fz : ∀ (a : Addr), Apart σ env a → H a ≠ none → F' a = F a
/-- private slots stay where they were -/
def PvSub (e env : En) : Prop := ∀ (j : Nat) (l : Sl), l.pv = true → e[j]? = some (some l) → ∃ l', l'.pv = true ∧ env[j]? = some (some l')
theorem PvSub.refl (e : En) : PvSub e e := fun j l h q => ⟨l, h, q⟩
theorem PvSub.trans {a b c : En} (h1 : PvSub a b) (h2 : PvSub b c) : PvSub a c := fun j l h q => by
  obtain ⟨l1, p1, q1⟩ := h1 j l h q
  exact h2 j l1 p1 q1
theorem PvSub.apart {σ : Sg} {e env : En} (h : PvSub e env) {a : Addr} (ap : Apart σ env a) : Apart σ e a := fun j m hm q => by
  obtain ⟨l, p, q'⟩ := h j m hm q
  exact ap j l p q'
theorem Grow.e {σ : Sg} {env : En} {F H F' H' : Hp} (g : Grow F H F' H') : GrowE σ env F H F' H' := ⟨g.ff, g.fh, fun a o _ h => g.hh a o h, fun a _ h => g.fz a h⟩
theorem GrowE.trans {σ : Sg} {env e1 : En} {F H F1 H1 F2 H2 : Hp} (a : GrowE σ env F H F1 H1) (p : PvSub e1 env) (b : GrowE σ e1 F1 H1 F2 H2) : GrowE σ env F H F2 H2 :=
  ⟨a.ff.trans b.ff, b.fh, fun x o ap h => b.hh x o (p.apart ap) (a.hh x o ap h), fun x ap h => by
    refine (b.fz x (p.apart ap) ?_).trans (a.fz x ap h)
    cases q : H x with
    | none => exact absurd q h
    | some o => rw [a.hh x o ap q]; intro z; cases z⟩
section
variable {S : Sx} {k : Nat} {f : Fm} {W : WX} {σ : Sg} {F H F1 H1 F0 H0 : Hp} {env : En} {Q : VK} {X : Cx} {e a b : Expr} {pos : Pos}
def PostE (S : Sx) (W : WX) (σ : Sg) (F0 H0 F H : Hp) (env : En) (r : R (Dv × En)) (Q : VK) : Prop := match r with
  | .ok p => ∀ v F' H', GrowE σ env F H F' H' → PvSub p.2 env → EnvOk S F0 H0 F' H' σ p.2 → Rp S F' v p.1 → Q v H'
  | .err x => ∀ c d F' H', GrowX S F0 H0 F' H' → ExcR S x c d → W c d σ H'
  | .stuck => False
def JE (S : Sx) (k : Nat) (f : Fm) (e : Expr) (m : En → R (Dv × En)) : Prop :=
  ∀ (X : Cx) (W : WX), Fit S k f X → Takes X W → ∀ (F0 H0 F H : Hp) (σ : Sg) (env : En) (Q : VK), EnvOk S F0 H0 F H σ env → PostE S W σ F0 H0 F H env (m env) Q → rd X e σ H Q
def keepE (m : En → R Dv) : En → R (Dv × En) := fun env => (m env).map fun d => (d, env)
theorem je_d {m : En → R Dv} (h : JD S k f e m) : JE S k f e (keepE m) := fun X W fit tk F0 H0 F H σ env Q eo hp pins s I => by
  refine h X W fit tk pins s F0 H0 F H σ env Q eo I ?_
  unfold keepE at hp
  cases q : m env with
  | ok d =>
    rw [q] at hp
    exact fun v F' H' g r => hp v F' H' g.e (PvSub.refl env) (eo.grow g) r
  | err n =>
    rw [q] at hp
    exact fun c d F' H' g ex => hp c d F' H' (eo.g.grow g) ex
  | stuck =>
    rw [q] at hp
    exact hp
/-- a part runs first -/
theorem JE.go {ma : En → R (Dv × En)} (ja : JE S k f a ma) (fit : Fit S k f X) (tk : Takes X W) (eo : EnvOk S F0 H0 F H σ env) {r : R (Dv × En)} {g : Dv × En → R (Dv × En)} (hr : r = (ma env).bind g) (hp : PostE S W σ F0 H0 F H env r Q) {Q' : VK}
    (h : ∀ p v F1 H1, Ext F F1 → Rp S F1 v p.1 → EnvOk S F0 H0 F1 H1 σ p.2 → PostE S W σ F0 H0 F1 H1 p.2 (g p) Q → Q' v H1) : rd X a σ H Q' := by
  refine ja X W fit tk F0 H0 F H σ env Q' eo ?_
  rw [hr] at hp
  cases q : ma env with
  | ok p =>
    rw [q] at hp
    intro v F' H' g1 ps eo1 r1
    refine h p v F' H' g1.ff r1 eo1 ?_
    simp only [R.bind] at hp
    cases q2 : g p with
    | ok p2 =>
      rw [q2] at hp
      exact fun u F2 H2 g2 ps2 eo2 r2 => hp u F2 H2 (g1.trans ps g2) (ps2.trans ps) eo2 r2
    | err n => rw [q2] at hp; exact hp
    | stuck => rw [q2] at hp; exact hp
  | err x =>
    rw [q] at hp
    exact hp
  | stuck =>
    rw [q] at hp
    exact hp
/-- an operator on two values -/
def op2E (fd : Dv → Dv → R Dv) (ma mb : En → R (Dv × En)) : En → R (Dv × En) := fun env => (ma env).bind fun p => (mb p.2).bind fun q => (fd p.1 q.1).map fun z => (z, q.2)
theorem je_op {r : Cx → R2} {fd : Dv → Dv → R Dv} {ma mb : En → R (Dv × En)} (hm : Op2 S k f (gD S) r fd) (ja : JE S k f a ma) (jb : JE S k f b mb) (fit : Fit S k f X) (tk : Takes X W) (eo : EnvOk S F0 H0 F H σ env)
    (hp : PostE S W σ F0 H0 F H env (op2E fd ma mb env) Q) : tOp (r X) (rd X a) (rd X b) σ H Q :=
  ja.go fit tk eo rfl hp fun p v F1 H1 e1 r1 eo1 hp1 => jb.go fit tk eo1 rfl hp1 fun q u F2 H2 e2 r2 eo2 hp2 =>
    hm X W σ F2 H2 v u p.1 q.1 Q fit eo2.g.fh (.sh (Rp.mono e2 r1)) (.sh r2) (by
      cases z : fd p.1 q.1 with
      | ok d =>
        rw [z] at hp2
        exact fun w F' H' g rw' => hp2 w F' H' g.e (PvSub.refl _) (eo2.grow g) rw'
      | err n =>
        rw [z] at hp2
        exact fun c d F' H' g ex => hp2 c d F' H' (eo2.g.grow g) ex
      | stuck =>
        rw [z] at hp2
        exact hp2)
theorem je_bin {op : Operator} {r : Cx → R2} {fd : Dv → Dv → R Dv} {ma mb : En → R (Dv × En)} (ho : ∀ X, Fit S k f X → OpR X (binaryOp op) (r X)) (hm : Op2 S k f (gD S) r fd) (ja : JE S k f a ma) (jb : JE S k f b mb) :
    JE S k f (.BinOp a op b pos) (op2E fd ma mb) := fun X W fit tk F0 H0 F H σ env Q eo hp pins s I =>
  (pe_op (ho X fit) pe_rd pe_rd).run pins s σ H Q I (je_op hm ja jb fit tk eo hp)
theorem je_ix {r : Cx → R2} {fd : Dv → Dv → R Dv} {ma mb : En → R (Dv × En)} (ho : ∀ X, Fit S k f X → IxR X (r X)) (hm : Op2 S k f (gD S) r fd) (hb : PlainIx b) (ja : JE S k f a ma) (jb : JE S k f b mb) :
    JE S k f (.Subscript a b pos) (op2E fd ma mb) := fun X W fit tk F0 H0 F H σ env Q eo hp pins s I =>
  (pe_ix (ho X fit) pe_rd pe_rd hb).run pins s σ H Q I (je_op hm ja jb fit tk eo hp)

/-! tests -/
def PostTE (S : Sx) (W : WX) (σ : Sg) (F0 H0 F H : Hp) (env : En) (r : R (Bool × En)) (Q : Bool → Hp → Prop) : Prop := match r with
  | .ok p => ∀ F' H', GrowE σ env F H F' H' → PvSub p.2 env → EnvOk S F0 H0 F' H' σ p.2 → Q p.1 H'
  | .err x => ∀ c d F' H', GrowX S F0 H0 F' H' → ExcR S x c d → W c d σ H'
  | .stuck => False
def JTE (S : Sx) (k : Nat) (f : Fm) (e : Expr) (m : En → R (Bool × En)) : Prop :=
  ∀ (X : Cx) (W : WX), Fit S k f X → Takes X W → ∀ (F0 H0 F H : Hp) (σ : Sg) (env : En) (Q : Bool → Hp → Prop), EnvOk S F0 H0 F H σ env → PostTE S W σ F0 H0 F H env (m env) Q → rdt X e σ H Q
def cmpE (fd : Dv → Dv → R Bool) (ma mb : En → R (Dv × En)) : En → R (Bool × En) := fun env => (ma env).bind fun p => (mb p.2).bind fun q => (fd p.1 q.1).map fun z => (z, q.2)
theorem JE.goT {ma : En → R (Dv × En)} (ja : JE S k f a ma) (fit : Fit S k f X) (tk : Takes X W) (eo : EnvOk S F0 H0 F H σ env) {r : R (Bool × En)} {g : Dv × En → R (Bool × En)} {Qt : Bool → Hp → Prop} (hr : r = (ma env).bind g) (hp : PostTE S W σ F0 H0 F H env r Qt) {Q' : VK}
    (h : ∀ p v F1 H1, Ext F F1 → Rp S F1 v p.1 → EnvOk S F0 H0 F1 H1 σ p.2 → PostTE S W σ F0 H0 F1 H1 p.2 (g p) Qt → Q' v H1) : rd X a σ H Q' := by
  refine ja X W fit tk F0 H0 F H σ env Q' eo ?_
  rw [hr] at hp
  cases q : ma env with
  | ok p =>
    rw [q] at hp
    intro v F' H' g1 ps eo1 r1
    refine h p v F' H' g1.ff r1 eo1 ?_
    simp only [R.bind] at hp
    cases q2 : g p with
    | ok p2 =>
      rw [q2] at hp
      exact fun F2 H2 g2 ps2 eo2 => hp F2 H2 (g1.trans ps g2) (ps2.trans ps) eo2
    | err n => rw [q2] at hp; exact hp
    | stuck => rw [q2] at hp; exact hp
  | err x =>
    rw [q] at hp
    exact hp
  | stuck =>
    rw [q] at hp
    exact hp
theorem jte_cmp (o : CmpK) {ma mb : En → R (Dv × En)} (ja : JE S k f a ma) (jb : JE S k f b mb) (h : behindInMarks o.op b = false := by rfl) : JTE S k f (.Compare a [o.op] [b] pos) (cmpE o.fd ma mb) := fun X W fit tk F0 H0 F H σ env Q eo hp pins s I =>
  (pt_cmpR (o.opR fit) pe_rd pe_rd h).run pins s σ H Q I (ja.goT fit tk eo rfl hp fun p v F1 H1 e1 r1 eo1 hp1 => jb.goT fit tk eo1 rfl hp1 fun q u F2 H2 e2 r2 eo2 hp2 =>
    o.op2 X W σ F2 H2 v u p.1 q.1 _ fit eo2.g.fh (.sh (Rp.mono e2 r1)) (.sh r2) (PostT.post (by
      cases z : o.fd p.1 q.1 with
      | ok d =>
        rw [z] at hp2
        exact fun F' H' g => hp2 F' H' g.e (PvSub.refl _) (eo2.grow g)
      | err n =>
        rw [z] at hp2
        exact fun c d F' H' g ex => hp2 c d F' H' (eo2.g.grow g) ex
      | stuck =>
        rw [z] at hp2
        exact hp2)))
def keepT (m : En → R Bool) : En → R (Bool × En) := fun env => (m env).map fun d => (d, env)
theorem jte_t {m : En → R Bool} (h : JT S k f e m) : JTE S k f e (keepT m) := fun X W fit tk F0 H0 F H σ env Q eo hp pins s I => by
  refine h X W fit tk pins s F0 H0 F H σ env Q eo I ?_
  unfold keepT at hp
  cases q : m env with
  | ok d =>
    rw [q] at hp
    exact fun F' H' g => hp F' H' g.e (PvSub.refl env) (eo.grow g)
  | err n =>
    rw [q] at hp
    exact fun c d F' H' g ex => hp c d F' H' (eo.g.grow g) ex
  | stuck =>
    rw [q] at hp
    exact hp
def JTEs (S : Sx) (k : Nat) (f : Fm) (ifs : List Expr) (m : En → R (Bool × En)) : Prop :=
  ∀ (X : Cx) (W : WX), Fit S k f X → Takes X W → ∀ (F0 H0 F H : Hp) (σ : Sg) (env : En) (Q : Bool → Hp → Prop), EnvOk S F0 H0 F H σ env → PostTE S W σ F0 H0 F H env (m env) Q → rdts X ifs σ H Q
theorem jtes_nil : JTEs S k f [] (fun env => .ok (true, env)) := fun X W fit tk F0 H0 F H σ env Q eo hp pins s I => pts_nil.run pins s σ H Q I (hp F H (Grow.refl eo.g.fh).e (PvSub.refl env) eo)
theorem jtes_one {c : Expr} {t : En → R (Bool × En)} (h : JTE S k f c t) : JTEs S k f [c] t := fun X W fit tk F0 H0 F H σ env Q eo hp pins s I =>
  (pts_one pt_rd).run pins s σ H Q I (h X W fit tk F0 H0 F H σ env Q eo hp)
end

/-! ### comprehensions that change private slots -/
/-- the slots vs as they were (no private ones) -/
def restE (env e : En) : List Nat → En
  | [] => e
  | v :: vs => (restE env e vs).set v (match env[v]? with | some (some (.val d)) => some (.val d) | _ => none)
def compE (b : Dv → En → R En) (t : En → R (Bool × En)) (e : En → R (Dv × En)) (vs : List Nat) : List Dv → En → R (List Dv × En)
  | [], env => .ok ([], env)
  | d :: ds, env => (b d env).bind fun em => (t em).bind fun c => if c.1 = true then (e c.2).bind fun x => (compE b t e vs ds (wipeE x.2 vs)).bind fun r => .ok (x.1 :: r.1, r.2) else compE b t e vs ds (wipeE c.2 vs)
def compEM (mi : En → R (List Dv)) (vs : List Nat) (b : Dv → En → R En) (t : En → R (Bool × En)) (e : En → R (Dv × En)) : En → R (Dv × En) := fun env =>
  (mi env).bind fun ds => ((compE b t e vs ds (wipeE env vs)).map fun p => (Dv.lst p.1, restE env p.2 vs)).calm
theorem compE_len {b : Dv → En → R En} {t : En → R (Bool × En)} {e : En → R (Dv × En)} {vs : List Nat} : ∀ {ds : List Dv} {env : En} {r : List Dv × En}, compE b t e vs ds env = .ok r → r.1.length ≤ ds.length
  | [], env, r, h => by cases h; exact Nat.le_refl _
  | d :: ds, env, r, h => by
    simp only [compE] at h
    obtain ⟨em, h1, h⟩ := R.bind_ok h
    obtain ⟨c, h2, h⟩ := R.bind_ok h
    split at h
    · obtain ⟨x, h3, h⟩ := R.bind_ok h
      obtain ⟨q, h4, h⟩ := R.bind_ok h
      cases h
      exact Nat.succ_le_succ (compE_len h4)
    · exact Nat.le_succ_of_le (compE_len h)
theorem restE_len (env e : En) : ∀ vs : List Nat, (restE env e vs).length = e.length
  | [] => rfl
  | v :: vs => by unfold restE; rw [List.length_set, restE_len env e vs]
theorem restE_at {env e : En} {i : Nat} {x : Sl} : ∀ {vs : List Nat}, (restE env e vs)[i]? = some (some x) → (i ∈ vs ∧ env[i]? = some (some x) ∧ x.pv = false) ∨ (i ∉ vs ∧ e[i]? = some (some x))
  | [], h => .inr ⟨by simp, h⟩
  | v :: vs, h => by
    unfold restE at h
    rcases En.set_at h with ⟨q, z⟩ | ⟨n, h⟩
    · left
      subst q
      split at z
      · rename_i d hd
        cases z
        exact ⟨List.mem_cons_self, hd, rfl⟩
      · cases z
    · rcases restE_at h with ⟨a, b⟩ | ⟨a, b⟩
      · exact .inl ⟨List.mem_cons_of_mem _ a, b⟩
      · exact .inr ⟨fun z => (List.mem_cons.mp z).elim (fun q => n q.symm) a, b⟩
theorem EnvOk.rest {S : Sx} {F0 H0 F H F' H' : Hp} {σ : Sg} {env e : En} {vs : List Nat} (a : EnvOk S F0 H0 F H σ env) (h : EnvOk S F0 H0 F' H' (L2.wipe σ vs) e) (ff : Ext F F') : EnvOk S F0 H0 F' H' σ (restE env e vs) := by
  refine ⟨h.g, by rw [restE_len, ← h.len, wipe_length], fun j => ?_, fun j k l m p hl hm h1 h2 h3 h4 => ?_⟩
  · cases q : (restE env e vs)[j]? with
    | none => cases σ[j]?.getD none <;> trivial
    | some y =>
      cases y with
      | none => cases σ[j]?.getD none <;> trivial
      | some y =>
        rcases restE_at q with ⟨i1, i2, i3⟩ | ⟨i1, i2⟩
        · cases y with
          | val d =>
            obtain ⟨v, hv, r⟩ := a.val i2
            rw [hv]
            exact Rp.mono ff r
          | own l => cases i3
          | st x y => cases i3
          | dic x => cases i3
          | obj x y => cases i3
        · have z := h.slot j
          rw [i2, wipe_out i1] at z
          exact z
  · rcases restE_at h1 with ⟨_, _, z⟩ | ⟨n1, g1⟩
    · rw [z] at hl; cases hl
    · rcases restE_at h2 with ⟨_, _, z⟩ | ⟨n2, g2⟩
      · rw [z] at hm; cases hm
      · exact h.dis j k l m p hl hm g1 g2 (by rw [wipe_out n1]; exact h3) (by rw [wipe_out n2]; exact h4)
section
variable {S : Sx} {k : Nat} {f : Fm} {scope : Scope} {tg iter elt : Expr} {ifs : List Expr} {pos : Pos} {own : List (Str × Nat)} {idx : List Nat} {mi : En → R (List Dv)} {b : Dv → En → R En} {t : En → R (Bool × En)} {m : En → R (Dv × En)}
theorem PvIn.sub {idx : List Nat} {e env : En} (h : PvIn idx e env) : PvSub e env := fun j l hl q => ⟨l, hl, (h j l hl q).2⟩
theorem pvSub_wipe (env : En) (vs : List Nat) : PvSub (wipeE env vs) env := fun j l hl q => ⟨l, hl, (wipeE_some q).1⟩
theorem lcE_run (own : List (Str × Nat)) (ji : JIF S k f tg iter mi) (jg : JG S k (f.blk scope) tg idx b) (jt : JTEs S k (f.blk scope) ifs t) (je : JE S k (f.blk scope) elt m)
    (hx : inB idx own = true) {X : Cx} {W : WX} (fit : Fit S k f X) (tk : Takes X W) {F0 H0 F H : Hp} {σ : Sg} {env : En} {Q : VK} (eo : EnvOk S F0 H0 F H σ env) (hp : PostE S W σ F0 H0 F H env (compEM mi (own.map (·.2)) b t m env) Q) :
    tLc (rdi X tg iter) (rdgB X scope tg) (rdtB X scope ifs) (rdeB X scope elt) (own.map (·.2)) σ H Q := by
  refine ji X W fit tk F0 H0 F H σ env _ eo ?_
  unfold compEM at hp
  cases q : mi env with
  | stuck => rw [q] at hp; exact hp.elim
  | err n =>
    rw [q] at hp
    exact fun c d F' H' g ex => hp c d F' H' (eo.g.grow g) ex
  | ok ds =>
    rw [q] at hp
    intro J F1 H1 g1 it D hD
    have F1D : F1 D = none := Evl.fresh_back g1.fh hD
    replace hp : PostE S W σ F0 H0 F H env (((compE b t m (own.map (·.2)) ds (wipeE env (own.map (·.2)))).map fun p => (Dv.lst p.1, restE env p.2 (own.map (·.2)))).calm) Q := hp
    cases q2 : compE b t m (own.map (·.2)) ds (wipeE env (own.map (·.2))) with
    | stuck => rw [q2] at hp; exact hp.elim
    | err n => rw [q2] at hp; exact hp.elim
    | ok out =>
      rw [q2] at hp
      replace hp : PostE S W σ F0 H0 F H env (.ok (Dv.lst out.1, restE env out.2 (own.map (·.2)))) Q := hp
      have hlen := compE_len q2
      have D0 : H0 D = none := by
        cases z : H0 D with
        | none => rfl
        | some o => exact absurd hD (Ext.there g1.hh (eo.g.he D (by rw [z]; intro w; cases w)))
      have e1 : EnvOk S F0 H0 F1 H1 (wipe σ (own.map (·.2))) (wipeE env (own.map (·.2))) := (eo.grow g1).wipe _
      refine ⟨fun i n H => n = ds.length - i ∧ i ≤ ds.length ∧ ∃ F acc done r e, GrowE (wipe σ (own.map (·.2))) (wipeE env (own.map (·.2))) F1 H1 F H ∧ PvSub e (wipeE env (own.map (·.2))) ∧ EnvOk S F0 H0 F H (wipe σ (own.map (·.2))) e ∧
          F D = none ∧ H D = some (.lst acc) ∧ RpL S F acc done ∧ compE b t m (own.map (·.2)) (ds.drop i) e = .ok (r, out.2) ∧ out.1 = done ++ r,
          ⟨ds.length, by simp, Nat.zero_le _, F1, [], [], out.1, _, (Grow.mine g1.fh hD).e, PvSub.refl _, e1.aside D0 F1D (e1.new hD), F1D, upd_same, .nil, by simpa using q2, rfl⟩, ?_⟩
      rintro i n H2 ⟨rfl, hi, F2, acc, done, r, e, g2, p2, e2, f2, d2, rl, cq, ho⟩
      have ap : Apart (wipe σ (own.map (·.2))) (wipeE env (own.map (·.2))) D := e1.new hD
      by_cases hlt : i < ds.length
      · right
        have hd : ds[i]? = some ds[i] := List.getElem?_eq_getElem hlt
        rw [List.drop_eq_getElem_cons hlt] at cq
        obtain ⟨go, yl⟩ := (it.2 i F2 H2 g2.ff e2.g.fh).1 _ hd
        refine ⟨go, fun H' => ∃ F acc done r e, GrowE (wipe σ (own.map (·.2))) (wipeE env (own.map (·.2))) F1 H1 F H' ∧ PvSub e (wipeE env (own.map (·.2))) ∧ EnvOk S F0 H0 F H' (wipe σ (own.map (·.2))) e ∧
          F D = none ∧ H' D = some (.lst acc) ∧ RpL S F acc done ∧ compE b t m (own.map (·.2)) (ds.drop (i + 1)) e = .ok (r, out.2) ∧ out.1 = done ++ r,
          fun H' hN => ⟨ds.length - (i + 1), by omega, rfl, hlt, hN⟩, fun x H3 y => ?_⟩
        obtain ⟨F3, g3, rx⟩ := yl x H3 y
        have g13 := g2.trans p2 g3.e
        have f3 : F3 D = none := (g3.fz D (by rw [d2]; intro z; cases z)).trans f2
        have d3 : H3 D = some (.lst acc) := g3.hh D _ d2
        have e3 := e2.grow g3
        simp only [compE] at cq
        obtain ⟨em, h1, cq⟩ := R.bind_ok cq
        obtain ⟨c, h2, cq⟩ := R.bind_ok cq
        intro s0 Hx C cl fp pins s u I ru
        have fb := fit.blk (scope := scope) s0 Hx C cl fp
        refine jg _ fb pins s F0 H0 F3 H3 _ _ em x u ds[i] _ e3 I ru rx h1 fun σ4 e4 l4 a4 p4 => ⟨?_, ?_⟩
        · rw [wipe_eq l4 fun j hj => a4 j fun z => hj (inB_of hx j z)]
          exact wipe_eq (wipe_length _ _) fun j hj => wipe_out hj
        have w4 : wipe σ4 (own.map (·.2)) = wipe σ (own.map (·.2)) := by
          rw [wipe_eq l4 fun j hj => a4 j fun z => hj (inB_of hx j z)]
          exact wipe_eq (wipe_length _ _) fun j hj => wipe_out hj
        have ap4 : Apart σ4 em D := fun j m hm h z => by
          obtain ⟨n, h'⟩ := p4 j m hm h
          rw [a4 j n] at z
          exact p2.apart ap j m hm h' z
        -- from the block's slots to those at its start
        have up : ∀ {e' : En} {a : Addr}, PvSub e' em → Apart (wipe σ (own.map (·.2))) e a → Apart σ4 em a := fun {e' a} pe h j m hm q z => by
          obtain ⟨n, h'⟩ := p4 j m hm q
          rw [a4 j n] at z
          exact h j m hm h' z
        have back : ∀ {e' : En} {F H F' H' : Hp}, GrowE σ4 em F H F' H' → GrowE (wipe σ (own.map (·.2))) e F H F' H' := fun {e' F H F' H'} g => ⟨g.ff, g.fh, fun a o h q => g.hh a o (up (PvSub.refl em) h) q, fun a h q => g.fz a (up (PvSub.refl em) h) q⟩
        intro s0 Hx C cl fp
        have fb := fit.blk (scope := scope) s0 Hx C cl fp
        refine jt _ W0 fb takes0 F0 H0 F3 H3 σ4 em _ e4 ?_
        rw [h2]
        intro F5 H5 g5 p5 e5
        have f5 : F5 D = none := (g5.fz D ap4 (by rw [d3]; intro z; cases z)).trans f3
        have d5 : H5 D = some (.lst acc) := g5.hh D _ ap4 d3
        have pm : PvSub em e := p4.sub
        cases hc : c.1 with
        | false =>
          rw [hc, if_neg Bool.false_ne_true] at cq
          rw [if_neg Bool.false_ne_true]
          refine ⟨F5, acc, done, r, wipeE c.2 (own.map (·.2)), g13.trans p2 (back (e' := em) g5), ((pvSub_wipe _ _).trans (p5.trans pm)).trans p2, ?_, f5, d5, rl.mono (g3.ff.trans g5.ff), cq, ho⟩
          have z := e5.wipe (own.map (·.2))
          rw [w4] at z
          exact z
        | true =>
          rw [hc, if_pos rfl] at cq
          rw [if_pos rfl]
          obtain ⟨y, h3, cq⟩ := R.bind_ok cq
          obtain ⟨r', h4, cq⟩ := R.bind_ok cq
          have cz := R.ok.inj cq
          have ca : y.1 :: r'.1 = r := (Prod.mk.inj cz).1
          have cb : r'.2 = out.2 := (Prod.mk.inj cz).2
          subst ca
          replace h4 : compE b t m (own.map (·.2)) (ds.drop (i + 1)) (wipeE y.2 (own.map (·.2))) = .ok (r'.1, out.2) := by rw [h4, ← cb]
          intro s0 Hx C cl fp
          have fb := fit.blk (scope := scope) s0 Hx C cl fp
          refine je _ W0 fb takes0 F0 H0 F5 H5 σ4 c.2 _ e5 ?_
          rw [h3]
          intro v F6 H6 g6 p6 e6 rv
          have ap5 : Apart σ4 c.2 D := p5.apart ap4
          have f6 : F6 D = none := (g6.fz D ap5 (by rw [d5]; intro z; cases z)).trans f5
          have d6 : H6 D = some (.lst acc) := g6.hh D _ ap5 d5
          have rl6 := rl.mono (g3.ff.trans (g5.ff.trans g6.ff))
          have g16 := g13.trans p2 (back (e' := em) (g5.trans p5 g6))
          have z := e6.wipe (own.map (·.2))
          rw [w4] at z
          have apz : Apart (wipe σ (own.map (·.2))) (wipeE y.2 (own.map (·.2))) D := (((pvSub_wipe _ _).trans (p6.trans (p5.trans pm))).trans p2).apart ap
          refine ⟨acc, d6, ?_, F6, acc ++ [v], done ++ [y.1], r'.1, wipeE y.2 (own.map (·.2)), ⟨g16.ff, fun a u h => ?_, fun a o h q => ?_, g16.fz⟩, ((pvSub_wipe _ _).trans (p6.trans (p5.trans pm))).trans p2, z.aside D0 f6 apz, f6, upd_same, rl6.app (.cons rv .nil), h4, by rw [ho, List.append_assoc]; rfl⟩
          · have z1 : acc.length = done.length := rl.length
            have z2 : out.1.length = done.length + (r'.1.length + 1) := by rw [ho, List.length_append, List.length_cons]
            have z3 := it.1
            omega
          · rw [upd_ne fun z => by rw [z, f6] at h; cases h]
            exact g16.fh a u h
          · rw [upd_ne fun z => by rw [z, hD] at q; cases q]
            exact g16.hh a o h q
      · left
        have hi' : i = ds.length := by omega
        subst hi'
        rw [List.drop_length] at cq
        cases cq
        have apD : Apart (wipe σ (own.map (·.2))) out.2 D := p2.apart ap
        have e3 := e2.give D0 f2 d2 apD
        have ex : Ext F2 (upd F2 D (.lst acc)) := Evl.Ex.new f2
        have ap' : ∀ {a : Addr}, Apart σ env a → Apart (wipe σ (own.map (·.2))) (wipeE env (own.map (·.2))) a := fun {a} h j m hm q z => h j m hm (wipeE_some q).1 (wipe_some z).1
        refine ⟨(it.2 _ F2 H2 g2.ff e2.g.fh).2 (Nat.le_refl _), hp (.ref D) (upd F2 D (.lst acc)) H2 ⟨g1.ff.trans (g2.ff.trans ex), e3.g.fh, fun a o h q => ?_, fun a h q => ?_⟩ (fun j l hl q => ?_) (eo.rest e3 (g1.ff.trans (g2.ff.trans ex))) (.lst upd_same ?_)⟩
        · exact g2.hh a o (ap' h) (g1.hh a o q)
        · rw [upd_ne fun z => q (by rw [z]; exact Evl.fresh_back g1.hh hD)]
          exact (g2.fz a (ap' h) (Ext.there g1.hh q)).trans (g1.fz a q)
        · rcases restE_at q with ⟨_, _, z⟩ | ⟨n, g⟩
          · rw [z] at hl; cases hl
          · obtain ⟨l', p', q'⟩ := p2 j l hl g
            exact ⟨l', p', (wipeE_some q').1⟩
        · rw [ho, List.append_nil]
          exact rl.mono ex
theorem je_comp {own : List (Str × Nat)} (ji : JIF S k f tg iter mi) (jg : JG S k (f.blk scope) tg idx b) (jt : JTEs S k (f.blk scope) ifs t) (je : JE S k (f.blk scope) elt m)
    (hx : inB idx own = true := by decide +kernel) (ok : blkC f.N f.sc scope own = true := by decide +kernel) (hs : ∀ env x, foldedSetIterable iter env x = pure x := by intro _ _; rfl) :
    JE S k f (.ListComp elt [⟨tg, iter, ifs, 0⟩] scope pos) (compEM mi (own.map (·.2)) b t m) := fun X W fit tk F0 H0 F H σ env Q eo hp pins s I =>
  (pe_lc (own := own) fit.calm (by rw [fit.hN]; exact fit.nd) pi_rd (blkOk_by (by rw [fit.hN, fit.hs]; exact ok)) (pgB (scope := scope)) ptB peB (hs X.env)).run pins s σ H Q I (lcE_run own ji jg jt je hx fit tk eo hp)
end
end Py
namespace Py
open PySem PySem.Spec PyProof.Rows L2

/-! ### statements -/
def R.out {α : Type} (r : R α) (g : α → Out) : Out := match r with
  | .stuck => .stuck
  | .err x => .err x
  | .ok a => g a
section
variable {S : Sx} {k : Nat} {f : Fm} {W : WX} {σ : Sg} {F H F1 H1 F0 H0 : Hp} {env : En} {Q : VK} {X : Cx} {e a b : Expr} {pos : Pos} {D : Ends} {st : Stmt} {sts : List Stmt}
def PostS (S : Sx) (W : WX) (F0 H0 F : Hp) (r : Out) (D : Ends) : Prop := match r with
  | .nx e => ∀ σ' F' H', Ext F F' → EnvOk S F0 H0 F' H' σ' e → D.nx σ' H'
  | .bk e => ∀ σ' F' H', Ext F F' → EnvOk S F0 H0 F' H' σ' e → D.bk σ' H'
  | .ct e => ∀ σ' F' H', Ext F F' → EnvOk S F0 H0 F' H' σ' e → D.ct σ' H'
  | .rt s e => ∀ v σ' F' H', GrowX S F0 H0 F' H' → (e ≠ [] → EnvOk S F0 H0 F' H' σ' e) → gS S H0 F' H' v s → D.rt v H'
  | .err x => ∀ c d σ' F' H', GrowX S F0 H0 F' H' → ExcR S x c d → W c d σ' H'
  | .stuck => False
theorem PostS.ext {r : Out} (h : PostS S W F0 H0 F r D) (x : Ext F F1) : PostS S W F0 H0 F1 r D := by
  cases r with
  | nx e => exact fun σ' F' H' y => h σ' F' H' (x.trans y)
  | bk e => exact fun σ' F' H' y => h σ' F' H' (x.trans y)
  | ct e => exact fun σ' F' H' y => h σ' F' H' (x.trans y)
  | rt s e => exact h
  | err n => exact h
  | stuck => exact h
def JS (S : Sx) (k : Nat) (f : Fm) (st : Stmt) (m : En → Out) : Prop :=
  ∀ (X : Cx) (W : WX), Fit S k f X → Takes X W → ∀ (F0 H0 F H : Hp) (σ : Sg) (env : En) (D : Ends), EnvOk S F0 H0 F H σ env → PostS S W F0 H0 F (m env) D →
    ∀ (pins : List (Addr × Obj)) (s : Shared), Inv X pins σ H s → wpAny (model X.prog X.w) X.A (exec st X.env) (SP X pins D) X.xe s
def JSs (S : Sx) (k : Nat) (f : Fm) (sts : List Stmt) (m : En → Out) : Prop :=
  ∀ (X : Cx) (W : WX), Fit S k f X → Takes X W → ∀ (F0 H0 F H : Hp) (σ : Sg) (env : En) (D : Ends), EnvOk S F0 H0 F H σ env → PostS S W F0 H0 F (m env) D →
    ∀ (pins : List (Addr × Obj)) (s : Shared), Inv X pins σ H s → wpAny (model X.prog X.w) X.A (execs sts X.env) (SP X pins D) X.xe s
def rds (X : Cx) (st : Stmt) : TS := fun D σ H => ∀ (pins : List (Addr × Obj)) (s : Shared), Inv X pins σ H s → wpAny (model X.prog X.w) X.A (exec st X.env) (SP X pins D) X.xe s
def rdss (X : Cx) (sts : List Stmt) : TS := fun D σ H => ∀ (pins : List (Addr × Obj)) (s : Shared), Inv X pins σ H s → wpAny (model X.prog X.w) X.A (execs sts X.env) (SP X pins D) X.xe s
theorem ps_rd : PS X st (rds X st) := ⟨fun pins s _ _ _ I h => h pins s I⟩
theorem pss_rd : PSs X sts (rdss X sts) := ⟨fun pins s _ _ _ I h => h pins s I⟩
/-- by a rule of the layer -/
theorem js_ps {m : En → Out} (h : ∀ (X : Cx) (W : WX), Fit S k f X → Takes X W → ∃ t, PS X st t ∧ ∀ (F0 H0 F H : Hp) (σ : Sg) (env : En) (D : Ends), EnvOk S F0 H0 F H σ env → PostS S W F0 H0 F (m env) D → t D σ H) : JS S k f st m :=
  fun X W fit tk F0 H0 F H σ env D eo hp pins s I => by
    obtain ⟨t, p, ht⟩ := h X W fit tk
    exact p.run pins s σ H D I (ht F0 H0 F H σ env D eo hp)
/-- an expression runs first -/
theorem J.goS {α : Type} {ga : Hp → Hp → Hp → V → α → Prop} {ma : En → R α} {g : α → Out} (ja : J S k f ga a ma) (fit : Fit S k f X) (tk : Takes X W) (eo : EnvOk S F0 H0 F H σ env) (hp : PostS S W F0 H0 F ((ma env).out g) D) {Q' : VK}
    (h : ∀ x v F1 H1, Grow F H F1 H1 → ga H F1 H1 v x → EnvOk S F0 H0 F1 H1 σ env → PostS S W F0 H0 F1 (g x) D → Q' v H1) : rd X a σ H Q' := fun pins s I => by
  refine ja X W fit tk pins s F0 H0 F H σ env Q' eo I ?_
  cases q : ma env with
  | ok x =>
    rw [q] at hp
    exact fun v F' H' g' gd => h x v F' H' g' gd (eo.grow g') (PostS.ext hp g'.ff)
  | err x =>
    rw [q] at hp
    exact fun c d F' H' g' ex => hp c d σ F' H' (eo.g.grow g') ex
  | stuck =>
    rw [q] at hp
    exact hp.elim
theorem JE.goS {ma : En → R (Dv × En)} {g : Dv × En → Out} (ja : JE S k f a ma) (fit : Fit S k f X) (tk : Takes X W) (eo : EnvOk S F0 H0 F H σ env) (hp : PostS S W F0 H0 F ((ma env).out g) D) {Q' : VK}
    (h : ∀ p v F1 H1, Ext F F1 → Rp S F1 v p.1 → EnvOk S F0 H0 F1 H1 σ p.2 → PostS S W F0 H0 F1 (g p) D → Q' v H1) : rd X a σ H Q' := by
  refine ja X W fit tk F0 H0 F H σ env Q' eo ?_
  cases q : ma env with
  | ok p =>
    rw [q] at hp
    exact fun v F' H' g1 ps eo1 r1 => h p v F' H' g1.ff r1 eo1 (PostS.ext hp g1.ff)
  | err x =>
    rw [q] at hp
    exact fun c d F' H' g' ex => hp c d σ F' H' g' ex
  | stuck =>
    rw [q] at hp
    exact hp.elim
theorem JT.goS {ta : En → R Bool} {g : Bool → Out} (ja : JT S k f a ta) (fit : Fit S k f X) (tk : Takes X W) (eo : EnvOk S F0 H0 F H σ env) (hp : PostS S W F0 H0 F ((ta env).out g) D) {Q' : Bool → Hp → Prop}
    (h : ∀ x F1 H1, Grow F H F1 H1 → EnvOk S F0 H0 F1 H1 σ env → PostS S W F0 H0 F1 (g x) D → Q' x H1) : rdt X a σ H Q' := fun pins s I => by
  refine ja X W fit tk pins s F0 H0 F H σ env Q' eo I ?_
  cases q : ta env with
  | ok x =>
    rw [q] at hp
    exact fun F' H' g' => h x F' H' g' (eo.grow g') (PostS.ext hp g'.ff)
  | err x =>
    rw [q] at hp
    exact fun c d F' H' g' ex => hp c d σ F' H' (eo.g.grow g') ex
  | stuck =>
    rw [q] at hp
    exact hp.elim

def bindO (r : R En) : Out := match r with
  | .ok e => .nx e
  | _ => .stuck
/-! sequences -/
def seqO (m1 m2 : En → Out) : En → Out := fun env => match m1 env with
  | .nx e => m2 e
  | o => o
theorem jss_nil : JSs S k f [] .nx := fun X W fit tk F0 H0 F H σ env D eo hp pins s I => pss_nil.run pins s σ H D I (hp σ F H (Evl.Ex.refl F) eo)
theorem jss_cons {m1 m2 : En → Out} (h1 : JS S k f st m1) (h2 : JSs S k f sts m2) : JSs S k f (st :: sts) (seqO m1 m2) := fun X W fit tk F0 H0 F H σ env D eo hp pins s I => by
  refine (pss_cons ps_rd pss_rd).run pins s σ H D I ?_
  refine h1 X W fit tk F0 H0 F H σ env _ eo ?_
  unfold seqO at hp
  cases q : m1 env with
  | nx e =>
    rw [q] at hp
    exact fun σ' F' H' x eo' => fun pins s I => h2 X W fit tk F0 H0 F' H' σ' e D eo' (PostS.ext hp x) pins s I
  | bk e => rw [q] at hp; exact hp
  | ct e => rw [q] at hp; exact hp
  | rt s e => rw [q] at hp; exact hp
  | err n => rw [q] at hp; exact hp
  | stuck => rw [q] at hp; exact hp
theorem jss_one {m : En → Out} (h : JS S k f st m) : JSs S k f [st] m := fun X W fit tk F0 H0 F H σ env D eo hp pins s I => by
  refine (pss_one ps_rd).run pins s σ H D I ?_
  exact h X W fit tk F0 H0 F H σ env D eo hp
theorem js_pass : JS S k f (.Pass pos) .nx := js_ps fun X W fit tk => ⟨_, ps_pass, fun F0 H0 F H σ env D eo hp => hp σ F H (Evl.Ex.refl F) eo⟩
theorem js_brk : JS S k f (.Break pos) .bk := js_ps fun X W fit tk => ⟨_, ps_break, fun F0 H0 F H σ env D eo hp => hp σ F H (Evl.Ex.refl F) eo⟩
theorem js_cont : JS S k f (.Continue pos) .ct := js_ps fun X W fit tk => ⟨_, ps_continue, fun F0 H0 F H σ env D eo hp => hp σ F H (Evl.Ex.refl F) eo⟩
/-- never reached -/
theorem js_never : JS S k f st (fun _ => .stuck) := fun X W fit tk F0 H0 F H σ env D eo hp => hp.elim
theorem jss_never : JSs S k f sts (fun _ => .stuck) := fun X W fit tk F0 H0 F H σ env D eo hp => hp.elim
/-- a private list is shared from here on -/
theorem js_frz (i : Nat) {m : En → Out} (h : JS S k f st m) : JS S k f st (fun env => m (frz i env)) := fun X W fit tk F0 H0 F H σ env D eo hp pins s I => by
  obtain ⟨F', g, x, eo'⟩ := eo.frz i
  exact h X W fit tk F0 H0 F' H σ _ D eo' (PostS.ext hp x) pins s I
theorem jss_frz (i : Nat) {m : En → Out} (h : JSs S k f sts m) : JSs S k f sts (fun env => m (frz i env)) := fun X W fit tk F0 H0 F H σ env D eo hp pins s I => by
  obtain ⟨F', g, x, eo'⟩ := eo.frz i
  exact h X W fit tk F0 H0 F' H σ _ D eo' (PostS.ext hp x) pins s I

/-! assignments -/
theorem EnvOk.putS (eo : EnvOk S F0 H0 F H σ env) (g : Grow F H F1 H1) (i : Nat) {v : V} {s : Sl} (gd : gS S H F1 H1 v s) : EnvOk S F0 H0 F1 H1 (σ.set i (some v)) (env.set i (some s)) := by
  cases s with
  | val d => exact (eo.grow g).put i gd
  | own l =>
    obtain ⟨p, vs, rfl, h0, fp, hp, r⟩ := gd
    refine (eo.grow g).putOwn i ?_ fp hp r fun j m hm _ h => eo.new h0 j m hm h
    cases z : H0 p with
    | none => rfl
    | some o => exact absurd h0 (eo.g.he p (by rw [z]; intro w; cases w))
  | st x y => exact gd.elim
  | dic x => exact gd.elim
  | obj x y => exact gd.elim
theorem locX (fit : Fit S k f X) {i : Nat} {x : Str} (h : locA f i x = true) : X.N.Nodup ∧ X.N[i]? = some x ∧ Loc X.env.scope x ∧ (X.fn x = true ∨ X.env.scope.names.lookup x = some .local) := by
  obtain ⟨h1, h2, h3⟩ := locA_of h
  exact ⟨by rw [fit.hN]; exact fit.nd, by rw [fit.hN]; exact h1, by rw [fit.hs]; exact h2, by rw [fit.hs, fit.hf]; exact h3⟩
theorem js_setX {x : Str} {px : Pos} {m : En → R Sl} (i : Nat) (ja : JX S k f a m) (h : locA f i x = true := by decide +kernel) (hs : ∀ env, swapsWith a (some (.Name x px)) pos.line env = pure false := by intro _; rfl) :
    JS S k f (.Assign [.Name x px] a pos) (fun env => (m env).out fun s => .nx (env.set i (some s))) := js_ps fun X W fit tk => by
  obtain ⟨h1, h2, h3, h4⟩ := locX fit h
  exact ⟨_, ps_set h1 h2 h3 pe_rd (hs X.env) h4, fun F0 H0 F H σ env D eo hp => ja.goS fit tk eo hp fun s v F1 H1 g gd eo1 hp1 => hp1 _ F1 H1 (Evl.Ex.refl F1) (eo.putS g i gd)⟩
theorem js_setD {x : Str} {px : Pos} {m : En → R Dv} (i : Nat) (ja : JD S k f a m) (h : locA f i x = true := by decide +kernel) (hs : ∀ env, swapsWith a (some (.Name x px)) pos.line env = pure false := by intro _; rfl) :
    JS S k f (.Assign [.Name x px] a pos) (fun env => (m env).out fun d => .nx (env.set i (some (.val d)))) := js_ps fun X W fit tk => by
  obtain ⟨h1, h2, h3, h4⟩ := locX fit h
  exact ⟨_, ps_set h1 h2 h3 pe_rd (hs X.env) h4, fun F0 H0 F H σ env D eo hp => ja.goS fit tk eo hp fun s v F1 H1 g gd eo1 hp1 => hp1 _ F1 H1 (Evl.Ex.refl F1) (eo1.put i gd)⟩
theorem js_setL {x : Str} {px : Pos} {m : En → R (List Dv)} (i : Nat) (ja : JL S k f a m) (h : locA f i x = true := by decide +kernel) (hs : ∀ env, swapsWith a (some (.Name x px)) pos.line env = pure false := by intro _; rfl) :
    JS S k f (.Assign [.Name x px] a pos) (fun env => (m env).out fun l => .nx (env.set i (some (.own l)))) := js_ps fun X W fit tk => by
  obtain ⟨h1, h2, h3, h4⟩ := locX fit h
  exact ⟨_, ps_set h1 h2 h3 pe_rd (hs X.env) h4, fun F0 H0 F H σ env D eo hp => ja.goS fit tk eo hp fun s v F1 H1 g gd eo1 hp1 => hp1 _ F1 H1 (Evl.Ex.refl F1) (eo.putS (s := .own s) g i gd)⟩
theorem js_setE {x : Str} {px : Pos} {m : En → R (Dv × En)} (i : Nat) (ja : JE S k f a m) (h : locA f i x = true := by decide +kernel) (hs : ∀ env, swapsWith a (some (.Name x px)) pos.line env = pure false := by intro _; rfl) :
    JS S k f (.Assign [.Name x px] a pos) (fun env => (m env).out fun p => .nx (p.2.set i (some (.val p.1)))) := js_ps fun X W fit tk => by
  obtain ⟨h1, h2, h3, h4⟩ := locX fit h
  exact ⟨_, ps_set h1 h2 h3 pe_rd (hs X.env) h4, fun F0 H0 F H σ env D eo hp => ja.goS fit tk eo hp fun p v F1 H1 x1 r1 eo1 hp1 => hp1 _ F1 H1 (Evl.Ex.refl F1) (eo1.put i r1)⟩
/-- a tuple of names, or one name -/
theorem js_asg {tg : Expr} {idx : List Nat} {b : Dv → En → R En} {m : En → R Dv} (ja : JD S k f a m) (jg : JG S k f tg idx b) (hs : ∀ env, swapsWithSole [tg] a pos.line env = pure false := by intro _; rfl) (hw : ∀ env, swappedStores [tg] a env = pure none := by intro _; rfl)
    (h1 : ∀ env, (assignEach [tg] env).map (·.2) = [assign tg env] := by intro _; rfl) : JS S k f (.Assign [tg] a pos) (fun env => (m env).out fun d => bindO (b d env)) := fun X W fit tk F0 H0 F H σ env D eo hp pins s I => by
  have hg : PG X tg (fun v σ H Q => ∀ (pins : List (Addr × Obj)) (s : Shared) (u : Value), Inv X pins σ H s → RelV v u → wpAny (model X.prog X.w) X.A (assign tg X.env u) (fun _ s' => ∃ σ' H', Inv X pins σ' H' s' ∧ Q σ' H') X.xe s) := ⟨fun pins s σ H v u Q I r h => h pins s u I r⟩
  refine (ps_asg pe_rd hg (hs X.env) (hw X.env) (h1 X.env)).run pins s σ H D I (ja.goS fit tk eo hp fun d v F1 H1 g rv eo1 hp1 pins s u I ru => ?_)
  cases q : b d env with
  | ok e' =>
    rw [q] at hp1
    exact jg X fit pins s F0 H0 F1 H1 σ env e' v u d _ eo1 I ru rv q fun σ' e2 _ _ _ => hp1 σ' F1 H1 (Evl.Ex.refl F1) e2
  | err n => rw [q] at hp1; exact hp1.elim
  | stuck => rw [q] at hp1; exact hp1.elim

/-! x = [..] on one line, x a local -/
def swC (f : Fm) (scope : Scope) (y : Str) : Bool := (match f.sc.kind with | .function => true | _ => false) && (match f.sc.names.lookup y with | some .local => true | _ => false) && !(scope.names.any fun (n, k) => n == y && (k == .local || k == .cell))
theorem swC_of {f : Fm} {scope : Scope} {y : Str} (h : swC f scope y = true) : f.sc.kind = .function ∧ f.sc.names.lookup y = some .local ∧ (scope.names.any fun (n, k) => n == y && (k == .local || k == .cell)) = false := by
  unfold swC at h
  simp only [Bool.and_eq_true, Bool.not_eq_true'] at h
  obtain ⟨⟨h1, h2⟩, h3⟩ := h
  refine ⟨?_, ?_, h3⟩
  · split at h1
    · assumption
    · cases h1
  · split at h2
    · assumption
    · cases h2
def asL (sh : Bool) (l : List Dv) : Sl := if sh = true then .val (.lst l) else .own l
theorem EnvOk.putL (eo : EnvOk S F0 H0 F H σ env) (g : Grow F H F1 H1) (i : Nat) (sh : Bool) {v : V} {l : List Dv} (gd : gL S H F1 H1 v l) : ∃ F2, Ext F1 F2 ∧ EnvOk S F0 H0 F2 H1 (σ.set i (some v)) (env.set i (some (asL sh l))) := by
  cases sh with
  | false => exact ⟨F1, Evl.Ex.refl F1, eo.putS (s := .own l) g i gd⟩
  | true =>
    obtain ⟨p, vs, rfl, h0, fp, hp, r⟩ := gd
    have ex : Ext F1 (upd F1 p (.lst vs)) := Evl.Ex.new fp
    exact ⟨_, ex, (eo.grow (g.share h0 fp hp)).put i (.lst upd_same (r.mono ex))⟩
section
variable {scope : Scope} {tg iter tg1 iter1 elt : Expr} {ifs ifs1 : List Expr} {idx idx1 : List Nat} {mi mi1 : En → R (List Dv)} {b b1 : Dv → En → R En} {t t1 : En → R Bool} {m : En → R Dv} {y : Str} {py cpos : Pos}
theorem post_lc {r : R (List Dv)} {sh : Bool} {i : Nat} (eo : EnvOk S F0 H0 F H σ env) (hp : PostS S W F0 H0 F (r.out fun l => .nx (env.set i (some (asL sh l)))) D) : Post S W σ F H (gL S) r (fun v H1 => gName i v σ H1 D.nx) := by
  cases r with
  | ok l =>
    intro v F1 H1 g gd
    obtain ⟨F2, ex, e2⟩ := eo.putL g i sh gd
    exact hp _ F2 H1 (g.ff.trans ex) e2
  | err n => exact fun c d F' H' g ex => hp c d σ F' H' (eo.g.grow g) ex
  | stuck => exact hp.elim
theorem js_setC {own : List (Str × Nat)} (sh : Bool) (i : Nat) (ji : JI S k f tg iter mi) (jg : JG S k (f.blk scope) tg idx b) (jt : JTs S k (f.blk scope) ifs t) (je : JD S k (f.blk scope) elt m)
    (hN : f.N[i]? = some y := by rfl) (hsw : swC f scope y = true := by decide +kernel) (hl : (py.line == cpos.line) = true := by rfl)
    (hx : inB idx own = true := by decide +kernel) (ok : blkC f.N f.sc scope own = true := by decide +kernel) (hs : ∀ env x, foldedSetIterable iter env x = pure x := by intro _ _; rfl) :
    JS S k f (.Assign [.Name y py] (.ListComp elt [⟨tg, iter, ifs, 0⟩] scope cpos) pos) (fun env => (compM mi (own.map (·.2)) b t m env).out fun l => .nx (env.set i (some (asL sh l)))) := js_ps fun X W fit tk => by
  obtain ⟨w1, w2, w3⟩ := swC_of hsw
  exact ⟨_, ps_setLc (own := own) (i := i) fit.calm (by rw [fit.hN]; exact fit.nd) (by rw [fit.hN]; exact hN) (by rw [fit.hs]; exact w2) (sw_true (by rw [fit.hs]; exact w1) (by rw [fit.hs]; exact w2) hl w3) pi_rd (blkOk_by (by rw [fit.hN, fit.hs]; exact ok)) pgB ptB peB (hs X.env),
    fun F0 H0 F H σ env D eo hp => lc_run hx ji jg jt je fit tk eo (post_lc eo hp)⟩
theorem js_setC2 {own : List (Str × Nat)} {vs1 : List Nat} (sh : Bool) (i : Nat) (ji : JI S k f tg iter mi) (jg : JG S k (f.blk scope) tg idx b) (jt : JTs S k (f.blk scope) ifs t) (ji1 : JIF S k (f.blk scope) tg1 iter1 mi1) (jg1 : JG S k (f.blk scope) tg1 idx1 b1) (jt1 : JTs S k (f.blk scope) ifs1 t1) (je : JD S k (f.blk scope) elt m)
    (hN : f.N[i]? = some y := by rfl) (hsw : swC f scope y = true := by decide +kernel) (hl : (py.line == cpos.line) = true := by rfl)
    (hx : inB idx own = true := by decide +kernel) (hx1 : (idx1.all fun i => vs1.contains i) = true := by decide +kernel) (hv : inB vs1 own = true := by decide +kernel) (ok : blkC f.N f.sc scope own = true := by decide +kernel) (hs : ∀ env x, foldedSetIterable iter env x = pure x := by intro _ _; rfl) (hs1 : ∀ env x, foldedSetIterable iter1 env x = pure x := by intro _ _; rfl) :
    JS S k f (.Assign [.Name y py] (.ListComp elt [⟨tg, iter, ifs, 0⟩, ⟨tg1, iter1, ifs1, 0⟩] scope cpos) pos) (fun env => (compM2 mi (own.map (·.2)) b t mi1 vs1 b1 t1 m env).out fun l => .nx (env.set i (some (asL sh l)))) := js_ps fun X W fit tk => by
  obtain ⟨w1, w2, w3⟩ := swC_of hsw
  exact ⟨_, ps_setLc2 (own := own) (vs1 := vs1) (i := i) fit.calm (by rw [fit.hN]; exact fit.nd) (by rw [fit.hN]; exact hN) (by rw [fit.hs]; exact w2) (sw_true (by rw [fit.hs]; exact w1) (by rw [fit.hs]; exact w2) hl w3) pi_rd (blkOk_by (by rw [fit.hN, fit.hs]; exact ok)) (inB_of hv) pgB ptB piB pgB ptB peB (hs X.env) hs1,
    fun F0 H0 F H σ env D eo hp => lc2_run hx hx1 ji jg jt ji1 jg1 jt1 je fit tk eo (post_lc eo hp)⟩
end

/-! a, b = x, y -/
def locO (f : Fm) (i : Nat) (x : Str) : Bool := decide (f.N[i]? = some x) && (match f.sc.names.lookup x with | some .local => true | _ => false)
theorem locO_of {f : Fm} {i : Nat} {x : Str} (h : locO f i x = true) : f.N[i]? = some x ∧ f.sc.names.lookup x = some .local := by
  unfold locO at h
  rw [Bool.and_eq_true, decide_eq_true_eq] at h
  refine ⟨h.1, ?_⟩
  have z := h.2
  split at z
  · assumption
  · cases z
theorem PostA.ofS {m : R (List Dv)} {g : List Dv → Out} (eo : EnvOk S F0 H0 F H σ env) (hp : PostS S W F0 H0 F (m.out g) D) {Qa : List V → Hp → Prop}
    (h : ∀ l vs F1 H1, Grow F H F1 H1 → gLs S H F1 H1 vs l → PostS S W F0 H0 F1 (g l) D → Qa vs H1) : PostA S W σ F H m Qa := by
  cases m with
  | ok l => exact fun vs F' H' g' gd => h l vs F' H' g' gd (PostS.ext hp g'.ff)
  | err x => exact fun c d F' H' g' ex => hp c d σ F' H' (eo.g.grow g') ex
  | stuck => exact hp.elim
theorem js_par2 {x y : Str} {kt k2 : Nat} {px py pt pt2 : Pos} {m : En → R (List Dv)} (i j : Nat) (ja : JA S k f [a, b] m) (hi : locO f i x = true := by decide +kernel) (hj : locO f j y = true := by decide +kernel) (hij : i ≠ j := by decide)
    (hw : ∀ env, env.scope = f.sc → swappedStores [.Tuple [.Name x px, .Name y py] kt pt] (.Tuple [a, b] k2 pt2) env = pure (some [x, y])) :
    JS S k f (.Assign [.Tuple [.Name x px, .Name y py] kt pt] (.Tuple [a, b] k2 pt2) pos) (fun env => (m env).out fun l => match l with | [u, v] => .nx ((env.set i (some (.val u))).set j (some (.val v))) | _ => .stuck) := js_ps fun X W fit tk => by
  obtain ⟨n1, l1⟩ := locO_of hi
  obtain ⟨n2, l2⟩ := locO_of hj
  obtain ⟨t, p, ht⟩ := ja.2 X W fit tk
  refine ⟨_, ps_par (i := i) (j := j) fit.calm (by rw [fit.hN]; exact fit.nd) (by rw [fit.hN]; exact n1) (by rw [fit.hN]; exact n2) hij (by rw [fit.hs]; exact l1) (by rw [fit.hs]; exact l2) p (hw X.env fit.hs), fun F0 H0 F H σ env D eo hp => ?_⟩
  refine ht F0 H0 F H σ env _ eo (PostA.ofS eo hp fun l vs F1 H1 g r hp1 => ?_)
  split at hp1
  · cases r with
    | cons r1 r => cases r with
      | cons r2 r => cases r with
        | nil => exact ⟨_, _, rfl, hp1 _ F1 H1 (Evl.Ex.refl F1) (((eo.grow g).put i r1).put j r2)⟩
  · exact hp1.elim
theorem js_par3 {x y z : Str} {c : Expr} {kt k2 : Nat} {px py pz pt pt2 : Pos} {m : En → R (List Dv)} (i j l : Nat) (ja : JA S k f [a, b, c] m) (hi : locO f i x = true := by decide +kernel) (hj : locO f j y = true := by decide +kernel) (hl : locO f l z = true := by decide +kernel) (hij : i ≠ j := by decide) (hil : i ≠ l := by decide) (hjl : j ≠ l := by decide)
    (hw : ∀ env, env.scope = f.sc → swappedStores [.Tuple [.Name x px, .Name y py, .Name z pz] kt pt] (.Tuple [a, b, c] k2 pt2) env = pure (some [x, y, z])) :
    JS S k f (.Assign [.Tuple [.Name x px, .Name y py, .Name z pz] kt pt] (.Tuple [a, b, c] k2 pt2) pos) (fun env => (m env).out fun l' => match l' with | [u, v, w] => .nx (((env.set i (some (.val u))).set j (some (.val v))).set l (some (.val w))) | _ => .stuck) := js_ps fun X W fit tk => by
  obtain ⟨n1, l1⟩ := locO_of hi
  obtain ⟨n2, l2⟩ := locO_of hj
  obtain ⟨n3, l3⟩ := locO_of hl
  obtain ⟨t, p, ht⟩ := ja.2 X W fit tk
  refine ⟨_, ps_par3 (i := i) (j := j) (l := l) fit.calm (by rw [fit.hN]; exact fit.nd) (by rw [fit.hN]; exact n1) (by rw [fit.hN]; exact n2) (by rw [fit.hN]; exact n3) hij hil hjl (by rw [fit.hs]; exact l1) (by rw [fit.hs]; exact l2) (by rw [fit.hs]; exact l3) p (hw X.env fit.hs), fun F0 H0 F H σ env D eo hp => ?_⟩
  refine ht F0 H0 F H σ env _ eo (PostA.ofS eo hp fun l vs F1 H1 g r hp1 => ?_)
  split at hp1
  · cases r with
    | cons r1 r => cases r with
      | cons r2 r => cases r with
        | cons r3 r => cases r with
          | nil => exact ⟨_, _, _, rfl, hp1 _ F1 H1 (Evl.Ex.refl F1) ((((eo.grow g).put i r1).put j r2).put _ r3)⟩
  · exact hp1.elim

/-! return -/
theorem gS.back (eo : EnvOk S F0 H0 F H σ env) {v : V} {s : Sl} {F' H' : Hp} (gd : gS S H F' H' v s) : gS S H0 F' H' v s := by
  cases s with
  | val d => exact gd
  | own l =>
    obtain ⟨p, vs, rfl, h0, r⟩ := gd
    refine ⟨p, vs, rfl, ?_, r⟩
    cases z : H0 p with
    | none => rfl
    | some o => exact absurd h0 (eo.g.he p (by rw [z]; intro w; cases w))
  | st x y => exact gd.elim
  | dic x => exact gd.elim
  | obj x y => exact gd.elim
theorem js_ret {m : En → R Sl} (ja : JX S k f a m) : JS S k f (.Return (some a) pos) (fun env => (m env).out fun s => .rt s env) := js_ps fun X W fit tk =>
  ⟨_, ps_ret pe_rd, fun F0 H0 F H σ env D eo hp => ja.goS fit tk eo hp fun s v F1 H1 g gd eo1 hp1 => hp1 v σ F1 H1 eo1.g (fun _ => eo1) (gS.back eo gd)⟩
theorem js_retD {m : En → R Dv} (ja : JD S k f a m) : JS S k f (.Return (some a) pos) (fun env => (m env).out fun d => .rt (.val d) env) := js_ps fun X W fit tk =>
  ⟨_, ps_ret pe_rd, fun F0 H0 F H σ env D eo hp => ja.goS fit tk eo hp fun s v F1 H1 g gd eo1 hp1 => hp1 v σ F1 H1 eo1.g (fun _ => eo1) gd⟩
theorem js_retL {m : En → R (List Dv)} (ja : JL S k f a m) : JS S k f (.Return (some a) pos) (fun env => (m env).out fun l => .rt (.own l) env) := js_ps fun X W fit tk =>
  ⟨_, ps_ret pe_rd, fun F0 H0 F H σ env D eo hp => ja.goS fit tk eo hp fun l v F1 H1 g gd eo1 hp1 => hp1 v σ F1 H1 eo1.g (fun _ => eo1) (gS.back (s := .own l) eo gd)⟩
theorem js_retE {m : En → R (Dv × En)} (ja : JE S k f a m) : JS S k f (.Return (some a) pos) (fun env => (m env).out fun p => .rt (.val p.1) p.2) := js_ps fun X W fit tk =>
  ⟨_, ps_ret pe_rd, fun F0 H0 F H σ env D eo hp => ja.goS fit tk eo hp fun p v F1 H1 x r1 eo1 hp1 => hp1 v σ F1 H1 eo1.g (fun _ => eo1) r1⟩
theorem js_retN : JS S k f (.Return none pos) (fun env => .rt (.val .non) env) := js_ps fun X W fit tk => ⟨_, ps_retN, fun F0 H0 F H σ env D eo hp => hp .non σ F H eo.g (fun _ => eo) .non⟩
def retV (i : Nat) (env : En) : Out := match env[i]? with
  | some (some (.val d)) => .rt (.val d) env
  | some (some (.own l)) => .rt (.own l) env
  | _ => .stuck
theorem js_retV {x : Str} {px : Pos} (i : Nat) (h : visA f i x = true := by decide +kernel) : JS S k f (.Return (some (.Name x px)) pos) (retV i) := js_ps fun X W fit tk =>
  ⟨_, ps_ret (pe_v fit h), fun F0 H0 F H σ env D eo hp => by
    unfold retV at hp
    split at hp
    · rename_i d e
      obtain ⟨v, hv, r⟩ := eo.val e
      exact ⟨v, hv, hp v σ F H eo.g (fun _ => eo) r⟩
    · rename_i l e
      obtain ⟨p, vs, hv, h0, fp, hpp, r⟩ := eo.own e
      exact ⟨.ref p, hv, hp (.ref p) σ F H eo.g (fun _ => eo) ⟨p, vs, rfl, h0, fp, hpp, r⟩⟩
    · exact hp.elim⟩

/-! if, for, while -/
def ifO (t : En → R Bool) (m1 m2 : En → Out) : En → Out := fun env => (t env).out fun c => if c = true then m1 env else m2 env
theorem js_if {c : Expr} {s1 s2 : List Stmt} {t : En → R Bool} {m1 m2 : En → Out} (jt : JT S k f c t) (h1 : JSs S k f s1 m1) (h2 : JSs S k f s2 m2) : JS S k f (.If c s1 s2 pos) (ifO t m1 m2) := js_ps fun X W fit tk =>
  ⟨_, ps_if pt_rd pss_rd pss_rd, fun F0 H0 F H σ env D eo hp => jt.goS fit tk eo hp fun c F1 H1 g eo1 hp1 => by
    cases c with
    | true => exact fun pins s I => h1 X W fit tk F0 H0 F1 H1 σ env D eo1 hp1 pins s I
    | false => exact fun pins s I => h2 X W fit tk F0 H0 F1 H1 σ env D eo1 hp1 pins s I⟩
def loopD (b : Dv → En → R En) (m : En → Out) : List Dv → En → Out
  | [], env => .nx env
  | d :: ds, env => match b d env with
    | .ok e => match m e with
      | .nx e' => loopD b m ds e'
      | .ct e' => loopD b m ds e'
      | .bk e' => .nx e'
      | o => o
    | _ => .stuck
def forO (mi : En → R (List Dv)) (b : Dv → En → R En) (m : En → Out) : En → Out := fun env => (mi env).out fun ds => loopD b m ds env
theorem js_for {tg iter : Expr} {body : List Stmt} {idx : List Nat} {mi : En → R (List Dv)} {b : Dv → En → R En} {m : En → Out} (ji : JIF S k f tg iter mi) (jg : JG S k f tg idx b) (hb : JSs S k f body m)
    (hs : ∀ env x, foldedSetIterable iter env x = pure x := by intro _ _; rfl) : JS S k f (.For tg iter body [] pos) (forO mi b m) := js_ps fun X W fit tk => by
  have hg : PG X tg (fun v σ H Q => ∀ (pins : List (Addr × Obj)) (s : Shared) (u : Value), Inv X pins σ H s → RelV v u → wpAny (model X.prog X.w) X.A (assign tg X.env u) (fun _ s' => ∃ σ' H', Inv X pins σ' H' s' ∧ Q σ' H') X.xe s) := ⟨fun pins s σ H v u Q I r h => h pins s u I r⟩
  refine ⟨_, ps_for fit.po fit.calm pi_rd hg pss_rd (hs X.env), fun F0 H0 F H σ env D eo hp => ?_⟩
  refine ji X W fit tk F0 H0 F H σ env _ eo ?_
  unfold forO at hp
  cases q : mi env with
  | stuck => rw [q] at hp; exact hp.elim
  | err n => rw [q] at hp; exact fun c d F' H' g ex => hp c d σ F' H' (eo.g.grow g) ex
  | ok ds =>
    rw [q] at hp
    replace hp : PostS S W F0 H0 F (loopD b m ds env) D := hp
    intro J F1 H1 g1 it
    refine ⟨fun i n σ H => n = ds.length - i ∧ i ≤ ds.length ∧ ∃ F e, Ext F1 F ∧ EnvOk S F0 H0 F H σ e ∧ PostS S W F0 H0 F (loopD b m (ds.drop i) e) D, ⟨ds.length, by simp, Nat.zero_le _, F1, env, Evl.Ex.refl F1, eo.grow g1, by simpa using PostS.ext hp g1.ff⟩, ?_⟩
    rintro i n σ2 H2 ⟨rfl, hi, F2, e, x2, e2, hl⟩
    by_cases hlt : i < ds.length
    · right
      rw [List.drop_eq_getElem_cons hlt] at hl
      obtain ⟨go, yl⟩ := (it.2 i F2 H2 x2 e2.g.fh).1 _ (List.getElem?_eq_getElem hlt)
      refine ⟨go, fun σ' H' => ∃ F e, Ext F1 F ∧ EnvOk S F0 H0 F H' σ' e ∧ PostS S W F0 H0 F (loopD b m (ds.drop (i + 1)) e) D, fun σ' H' hN => ⟨ds.length - (i + 1), by omega, rfl, hlt, hN⟩, fun x H3 y pins s u I ru => ?_⟩
      obtain ⟨F3, g3, rx⟩ := yl x H3 y
      simp only [loopD] at hl
      cases hb1 : b ds[i] e with
      | stuck => rw [hb1] at hl; exact hl.elim
      | err n => rw [hb1] at hl; exact hl.elim
      | ok em =>
        rw [hb1] at hl
        replace hl : PostS S W F0 H0 F3 (match m em with
          | .nx e' => loopD b m (ds.drop (i + 1)) e'
          | .ct e' => loopD b m (ds.drop (i + 1)) e'
          | .bk e' => .nx e'
          | o => o) D := PostS.ext hl g3.ff
        refine jg X fit pins s F0 H0 F3 H3 σ2 e em x u ds[i] _ (e2.grow g3) I ru rx hb1 fun σ4 e4 _ _ _ pins s I => ?_
        refine hb X W fit tk F0 H0 F3 H3 σ4 em _ e4 ?_ pins s I
        have x3 := x2.trans g3.ff
        cases hm : m em with
        | stuck => rw [hm] at hl; exact hl.elim
        | err n => rw [hm] at hl; exact hl
        | nx e' => rw [hm] at hl; exact fun σ' F' H' x' e5 => ⟨F', e', x3.trans x', e5, PostS.ext hl x'⟩
        | ct e' => rw [hm] at hl; exact fun σ' F' H' x' e5 => ⟨F', e', x3.trans x', e5, PostS.ext hl x'⟩
        | bk e' => rw [hm] at hl; exact fun σ' F' H' x' e5 => hl σ' F' H' x' e5
        | rt s' e' => rw [hm] at hl; exact hl
    · left
      have hi' : i = ds.length := by omega
      subst hi'
      rw [List.drop_length] at hl
      exact ⟨(it.2 _ F2 H2 x2 e2.g.fh).2 (Nat.le_refl _), hl σ2 F2 H2 (Evl.Ex.refl F2) e2⟩
def whileD (t : En → R Bool) (m : En → Out) : Nat → En → Out
  | 0, _ => .stuck
  | n + 1, env => (t env).out fun c => if c = true then (match m env with
      | .nx e' => whileD t m n e'
      | .ct e' => whileD t m n e'
      | .bk e' => .nx e'
      | o => o) else .nx env
theorem js_while (fuel : Nat) {c : Expr} {body : List Stmt} {t : En → R Bool} {m : En → Out} (jt : JT S k f c t) (hb : JSs S k f body m) : JS S k f (.While c body [] pos) (whileD t m fuel) := js_ps fun X W fit tk =>
  ⟨_, ps_while fit.po pt_rd pss_rd, fun F0 H0 F H σ env D eo hp => by
    refine ⟨fun n σ H => ∃ F' e, Ext F F' ∧ EnvOk S F0 H0 F' H σ e ∧ PostS S W F0 H0 F' (whileD t m n e) D, ⟨fuel, F, env, Evl.Ex.refl F, eo, hp⟩, ?_⟩
    rintro n σ2 H2 ⟨F2, e, x2, e2, hl⟩
    cases n with
    | zero => exact hl.elim
    | succ n =>
      refine jt.goS fit tk e2 hl fun c F3 H3 g3 e3 hl3 => ?_
      cases c with
      | false => rw [if_neg Bool.false_ne_true] at hl3 ⊢; exact hl3 σ2 F3 H3 (Evl.Ex.refl F3) e3
      | true =>
        rw [if_pos rfl] at hl3 ⊢
        refine ⟨fun σ' H' => ∃ F' e, Ext F F' ∧ EnvOk S F0 H0 F' H' σ' e ∧ PostS S W F0 H0 F' (whileD t m n e) D, fun σ' H' hN => ⟨n, Nat.lt_succ_self n, hN⟩, fun pins s I => ?_⟩
        refine hb X W fit tk F0 H0 F3 H3 σ2 e _ e3 ?_ pins s I
        have x3 := x2.trans g3.ff
        cases hm : m e with
        | stuck => rw [hm] at hl3; exact hl3.elim
        | err n => rw [hm] at hl3; exact hl3
        | nx e' => rw [hm] at hl3; exact fun σ' F' H' x' e5 => ⟨F', e', x3.trans x', e5, PostS.ext hl3 x'⟩
        | ct e' => rw [hm] at hl3; exact fun σ' F' H' x' e5 => ⟨F', e', x3.trans x', e5, PostS.ext hl3 x'⟩
        | bk e' => rw [hm] at hl3; exact fun σ' F' H' x' e5 => hl3 σ' F' H' x' e5
        | rt s' e' => rw [hm] at hl3; exact hl3⟩
/-! an expression for its effect -/
theorem js_expr {m : En → R Dv} (ja : JD S k f a m) (hs : ∀ env, swapsWith a none pos.line env = pure false := by intro _; rfl) : JS S k f (.Expr a pos) (fun env => (m env).out fun _ => .nx env) := js_ps fun X W fit tk =>
  ⟨_, ps_expr pe_rd (hs X.env), fun F0 H0 F H σ env D eo hp => ja.goS fit tk eo hp fun s v F1 H1 g gd eo1 hp1 => hp1 σ F1 H1 (Evl.Ex.refl F1) eo1⟩
theorem js_exprE {m : En → R (Dv × En)} (ja : JE S k f a m) (hs : ∀ env, swapsWith a none pos.line env = pure false := by intro _; rfl) : JS S k f (.Expr a pos) (fun env => (m env).out fun p => .nx p.2) := js_ps fun X W fit tk =>
  ⟨_, ps_expr pe_rd (hs X.env), fun F0 H0 F H σ env D eo hp => ja.goS fit tk eo hp fun p v F1 H1 x r1 eo1 hp1 => hp1 σ F1 H1 (Evl.Ex.refl F1) eo1⟩
end
end Py
namespace Py
open PySem PySem.Spec PyProof.Rows L2

/-! ### private lists are written -/
theorem get_listI {X : Cx} : PGet X (fun o i H Q => ∃ p xs j d, o = .ref p ∧ i = .int j ∧ H p = some (.lst xs) ∧ atI xs j = some d ∧ Q d H) := by
  intro pins s σ H o i ov iv Q I ro ri h
  obtain ⟨p, xs, j, d, rfl, rfl, hp, hd, q⟩ := h
  cases ro
  obtain ⟨t, rfl⟩ := ri
  obtain ⟨its, r, pl, hz⟩ := I.list (SqL.of hp)
  obtain ⟨m, e1, e2, e3, e4, e5⟩ := atI_get hd
  obtain ⟨w, ew, rw'⟩ := r.get e2
  have hl := r.length
  have hn := line63
  have done : EP X pins σ Q w s := ⟨d, H, I, rw', q⟩
  by_cases h0 : 0 ≤ j
  · have hj : j.toNat = m := by
      rw [seqIndex_of h0 e5] at e1
      exact Option.some.inj e1
    exact wpAny_getItem_list pl.isList h0 (by omega) (by rw [hj]; simpa using ew) done
  · have hj : (j + (its.toArray.size : Int)).toNat = m := by
      rw [seqIndex_neg (by omega) e4] at e1
      rw [List.size_toArray, ← hl]
      exact Option.some.inj e1
    exact wpAny_getItem_list_neg pl.isList (by omega) (by rw [List.size_toArray] <;> omega) (by omega) (by rw [hj]; simpa using ew) done
section
variable {S : Sx} {k : Nat} {f : Fm} {W : WX} {σ : Sg} {F H F1 H1 F0 H0 : Hp} {env : En} {Q : VK} {X : Cx} {e a b : Expr} {pos apos px : Pos} {D : Ends} {x : Str}
theorem own_same {i : Nat} {l : List Dv} {p : Addr} (eo : EnvOk S F0 H0 F H σ env) (h : env[i]? = some (some (.own l))) (hσ : σ[i]? = some (some (.ref p))) : ∃ vs, F p = none ∧ H p = some (.lst vs) ∧ RpL S F vs l := by
  obtain ⟨q, vs, hq, h0, fp, hp, r⟩ := eo.own h
  rw [hσ] at hq
  cases hq
  exact ⟨vs, fp, hp, r⟩
/-- what a slot's list becomes -/
def wrL (i : Nat) (env : En) (g : List Dv → R (Dv × List Dv)) : R (Dv × En) := match env[i]? with
  | some (some (.own l)) => (g l).bind fun p => .ok (p.1, env.set i (some (.own p.2)))
  | _ => .stuck
def isOwn (i : Nat) (env : En) : Bool := match env[i]? with
  | some (some (.own _)) => true
  | _ => false
theorem isOwn_of {i : Nat} {env : En} (h : isOwn i env = true) : ∃ l, env[i]? = some (some (.own l)) := by
  unfold isOwn at h
  split at h
  · exact ⟨_, by assumption⟩
  · cases h
/-- a method of a private list, with one argument -/
def methE (i : Nat) (g : Dv → List Dv → R (Dv × List Dv)) (m : En → R (Dv × En)) : En → R (Dv × En) := fun env => if isOwn i env = true then (m env).bind fun q => wrL i q.2 (g q.1) else .stuck
theorem pvSub_set {i : Nat} {l : List Dv} {s : Sl} {e env : En} (h : e[i]? = some (some (.own l))) (p : PvSub e env) : PvSub (e.set i (some s)) env := fun j m hm q => by
  rcases En.set_at q with ⟨n, _⟩ | ⟨n, g⟩
  · exact n ▸ p i (.own l) rfl h
  · exact p j m hm g
theorem je_meth {name : Str} {id : String} {r : V → List V → Hp → VK → Prop} {g : Dv → List Dv → R (Dv × List Dv)} {m : En → R (Dv × En)} (i : Nat) (hv : visA f i x = true) (slot : Slot "list" name id) (hty : typeOf (.builtin id) = pure (.type "method_descriptor")) (hm : ∀ X, MtM X id r)
    (hg : ∀ {F H : Hp} {p : Addr} {vs : List V} {l l' : List Dv} {u : V} {d d' : Dv} {Q : VK}, H p = some (.lst vs) → RpL S F vs l → Rp S F u d → g d l = .ok (d', l') → (∀ v vs', Rp S F v d' → RpL S F vs' l' → Q v (upd H p (.lst vs'))) → r (.ref p) [u] H Q)
    (hn : ∀ d l n, g d l ≠ .err n) (ja : JE S k f a m) (h : plainE a = true := by rfl)
    (hbase : ∀ env, attributeBase (.Name x px) name env (eval (.Name x px) env) = eval (.Name x px) env := by intro _; rfl) (hline : (apos.endLine == pos.line) = true := by rfl) :
    JE S k f (.Call (.Attribute (.Name x px) name apos) [a] [] pos) (methE i g m) := fun X W fit tk F0 H0 F H σ env Q eo hp pins s I => by
  have hst : ∀ env, starEach [a] env = (false, eval a env) :: starEach [] env := fun env => star_of h [] env
  refine (pe_bm (X := X) PySem.F.plainAttrs_list slot hty (hm X) (pe_v fit hv) (pa_cons pe_rd pa_nil (hst X.env)) (hbase X.env) (by rw [hst]; rfl) hline (hst X.env) (by rfl)).run pins s σ H Q I ?_
  unfold methE at hp
  split at hp
  · rename_i ho
    obtain ⟨l0, hl0⟩ := isOwn_of ho
    obtain ⟨p, vs0, hσ, h0, fp, hpp, r0⟩ := eo.own hl0
    refine ⟨.ref p, hσ, .inl ⟨rfl, vs0, SqL.of hpp⟩, ?_⟩
    refine ja X W fit tk F0 H0 F H σ env _ eo ?_
    cases q : m env with
    | stuck => rw [q] at hp; exact hp.elim
    | err n => rw [q] at hp; exact hp
    | ok qq =>
      rw [q] at hp
      intro u F1 H1 g1 ps eo1 ru
      replace hp : PostE S W σ F0 H0 F H env (wrL i qq.2 (g qq.1)) Q := hp
      unfold wrL at hp
      split at hp
      · rename_i l hl
        cases q2 : g qq.1 l with
        | stuck => rw [q2] at hp; exact hp.elim
        | err n => exact absurd q2 (hn _ _ _)
        | ok pr =>
          rw [q2] at hp
          obtain ⟨vs, fp1, hp1, rl⟩ := own_same eo1 hl hσ
          refine hg hp1 rl ru q2 fun v vs' rv rl' => ?_
          have e2 := eo1.write hl hσ rl'
          refine hp v F1 _ ⟨g1.ff, e2.g.fh, fun a o ap h => ?_, g1.fz⟩ (pvSub_set hl ps) e2 rv
          rw [upd_ne fun z => ap i _ rfl hl0 (by rw [hσ, z])]
          exact g1.hh a o ap h
      · exact hp.elim
  · exact hp.elim
def appD (d : Dv) (l : List Dv) : R (Dv × List Dv) := if l.length < lineP then .ok (.non, l ++ [d]) else .stuck
theorem je_append {m : En → R (Dv × En)} (i : Nat) (ja : JE S k f a m) (hv : visA f i x = true := by decide +kernel) (h : plainE a = true := by rfl) (hline : (apos.endLine == pos.line) = true := by rfl) :
    JE S k f (.Call (.Attribute (.Name x px) "append" apos) [a] [] pos) (methE i appD m) :=
  je_meth i hv PySem.F.slot_list_append PySem.F.type_list_append (fun _ => mt_append) (fun {F H p vs l l' u d d' Q} hp rl ru hd q => by
    unfold appD at hd
    split at hd
    · rename_i z
      cases hd
      exact ⟨p, vs, u, rfl, rfl, hp, by rw [rl.length]; exact lineP_lt z, q .non _ .non (rl.app (.cons ru .nil))⟩
    · cases hd) (fun d l n hd => by unfold appD at hd; split at hd <;> cases hd) ja h (fun _ => rfl) hline
def popD (d : Dv) (l : List Dv) : R (Dv × List Dv) := match d with
  | .int j => match ixN l.length j with
    | some n => match l[n]? with
      | some y => if -1000000 ≤ j ∧ j ≤ 1000000 then .ok (y, l.eraseIdx n) else .stuck
      | none => .stuck
    | none => .stuck
  | _ => .stuck
theorem je_pop {m : En → R (Dv × En)} (i : Nat) (ja : JE S k f a m) (hv : visA f i x = true := by decide +kernel) (h : plainE a = true := by rfl) (hline : (apos.endLine == pos.line) = true := by rfl) :
    JE S k f (.Call (.Attribute (.Name x px) "pop" apos) [a] [] pos) (methE i popD m) :=
  je_meth i hv PySem.F.slot_list_pop PySem.F.type_list_pop (fun _ => mt_popAt) (fun {F H p vs l l' u d d' Q} hp rl ru hd q => by
    unfold popD at hd
    split at hd
    · rename_i j
      split at hd
      · rename_i n hn
        split at hd
        · rename_i y hy
          split at hd
          · cases hd
            cases ru
            obtain ⟨v, hv', rv⟩ := rl.get hy
            obtain ⟨a1, a2, a3, a4⟩ := ixN_seq hn
            exact ⟨p, vs, j, n, v, rfl, rfl, hp, by omega, by omega, by rw [rl.length]; exact a1, hv', q v _ rv (rl.erase n)⟩
          · cases hd
        · cases hd
      · cases hd
    · cases hd) (fun d l n hd => by unfold popD at hd; split at hd <;> try cases hd
                                    split at hd <;> try cases hd
                                    split at hd <;> try cases hd
                                    split at hd <;> cases hd) ja h (fun _ => rfl) hline

/-! x[a] = e -/
def setO (i : Nat) (j d : Dv) (env : En) : Out := match env[i]? with
  | some (some (.own l)) => match j with
    | .int z => match ixN l.length z with
      | some n => .nx (env.set i (some (.own (l.set n d))))
      | none => .stuck
    | _ => .stuck
  | _ => .stuck
theorem setO_run {i : Nat} {j d : Dv} (eo : EnvOk S F0 H0 F H σ env) {u v : V} (ru : RpB S F H u j) (rv : Rp S F v d) (hp : PostS S W F0 H0 F (setO i j d env) D) {p : Addr} (hσ : σ[i]? = some (some (.ref p))) : rSetL (.ref p) u v H fun H2 => D.nx σ H2 := by
  unfold setO at hp
  split at hp
  · rename_i l hl
    split at hp
    · rename_i z
      split at hp
      · rename_i n hn
        obtain ⟨vs, fp, hpp, rl⟩ := own_same eo hl hσ
        rw [ru.intAt]
        exact ⟨p, vs, z, n, rfl, rfl, hpp, by rw [rl.length]; exact hn, hp σ F _ (Evl.Ex.refl F) (eo.write hl hσ (rl.set rv n))⟩
      · exact hp.elim
    · exact hp.elim
  · exact hp.elim
theorem js_setI {m : En → R (Dv × En)} {mj : En → R Dv} (i : Nat) (je : JE S k f e m) (jj : JB S k f a mj) (hv : visA f i x = true := by decide +kernel) (hs : ∀ env, swapsWithSole [.Subscript (.Name x px) a apos] e pos.line env = pure false := by intro _; rfl)
    (hw : ∀ env, swappedStores [.Subscript (.Name x px) a apos] e env = pure none := by intro _; rfl)
    (ha : ∀ env v, assign (.Subscript (.Name x px) a apos) env v = (do
      let ov ← holding [v] (eval (.Name x px) env)
      let iv ← holding [v, ov] (eval a env)
      standAt apos
      holding [v, ov, iv] (setItem ov iv v)
      release [v, ov, iv] []) := by intro _ _; rfl) :
    JS S k f (.Assign [.Subscript (.Name x px) a apos] e pos) (fun env => (m env).out fun q => if isOwn i q.2 = true then (mj q.2).out fun j => setO i j q.1 q.2 else .stuck) := js_ps fun X W fit tk =>
  ⟨_, ps_asg pe_rd (pg_sub (pe_v fit hv) pe_rd set_list (ha X.env)) (hs X.env) (hw X.env) rfl, fun F0 H0 F H σ env D eo hp => je.goS fit tk eo hp fun q v F1 H1 x1 r1 eo1 hp1 => by
    split at hp1
    · rename_i ho
      obtain ⟨l, hl⟩ := isOwn_of ho
      obtain ⟨p, vs, hσ, _⟩ := eo1.own hl
      exact ⟨.ref p, hσ, jj.goS fit tk eo1 hp1 fun j u F2 H2 g2 ru eo2 hp2 => setO_run eo2 ru (r1.mono g2.ff) hp2 hσ⟩
    · exact hp1.elim⟩
/-! x[a] op= e, x op= e -/
structure AugK where
  op : Operator
  fd : Dv → Dv → R Dv
  r : V → V → Hp → VK → Prop
  ip : ∀ X : Cx, PIp X op r
  run : ∀ {S : Sx} {F H : Hp} {x y : V} {d e z : Dv} {Q : VK}, Rp S F x d → Rp S F y e → fd d e = .ok z → (∀ v, Rp S F v z → Q v H) → r x y H Q
  noerr : ∀ d e n, fd d e ≠ .err n
def intK (g : Int → Int → Int) : Dv → Dv → R Dv
  | .int i, .int j => .ok (.int (g i j))
  | _, _ => .stuck
theorem intK_run {S : Sx} {F H : Hp} {x y : V} {d e z : Dv} {Q : VK} {g : Int → Int → Int} (r1 : Rp S F x d) (r2 : Rp S F y e) (h : intK g d e = .ok z) (q : ∀ v, Rp S F v z → Q v H) : ipI g x y H Q := by
  unfold intK at h
  split at h
  · cases h
    cases r1
    cases r2
    exact ⟨_, _, rfl, rfl, q _ (.int _)⟩
  · cases h
theorem intK_noerr {g : Int → Int → Int} (d e : Dv) (n : Nat) : intK g d e ≠ .err n := fun h => by
  unfold intK at h
  split at h <;> cases h
def augAdd : AugK := ⟨.Add, intK fun i j => i + j, _, fun _ => ip_add, intK_run, intK_noerr⟩
def augSub : AugK := ⟨.Sub, intK fun i j => i - j, _, fun _ => ip_sub, intK_run, intK_noerr⟩
def mulK : Dv → Dv → R Dv
  | .int i, .int j => if mulB i j = true then .ok (.int (i * j)) else .stuck
  | _, _ => .stuck
theorem js_aug {m : En → R Dv} (o : AugK) (i : Nat) (je : JD S k f e m) (h : locA f i x = true := by decide +kernel) :
    JS S k f (.AugAssign (.Name x px) o.op e pos) (fun env => (valAt i env).out fun d => (m env).out fun y => (o.fd d y).out fun z => .nx (env.set i (some (.val z)))) := js_ps fun X W fit tk => by
  obtain ⟨h1, h2, h3, h4⟩ := locX fit h
  refine ⟨_, ps_aug h1 h2 h3 pe_rd (o.ip X) h4, fun F0 H0 F H σ env D eo hp => ?_⟩
  unfold valAt at hp
  split at hp
  · rename_i d hd
    obtain ⟨v, hv, rv⟩ := eo.val hd
    refine ⟨v, hv, je.goS fit tk eo hp fun y u F1 H1 g1 ru eo1 hp1 => ?_⟩
    cases q : o.fd d y with
    | ok z =>
      rw [q] at hp1
      exact o.run (rv.mono g1.ff) ru q fun w rw' => hp1 _ F1 H1 (Evl.Ex.refl F1) (eo1.put i rw')
    | err n => exact absurd q (o.noerr _ _ _)
    | stuck => rw [q] at hp1; exact hp1.elim
  · exact hp.elim
def getO (i : Nat) (j : Dv) (env : En) : R Dv := match env[i]? with
  | some (some (.own l)) => match j with
    | .int z => match atI l z with
      | some d => .ok d
      | none => .stuck
    | _ => .stuck
  | _ => .stuck
theorem js_augI {m mj : En → R Dv} (o : AugK) (i : Nat) (jj : JD S k f a mj) (je : JD S k f e m) (hv : visA f i x = true := by decide +kernel)
    (ha : ∀ ov iv new, augStore a ov iv new = (do holding [new, ov, iv] (setItem ov iv new); release [new, ov, iv] []; pure .next) := by intros; rfl) :
    JS S k f (.AugAssign (.Subscript (.Name x px) a apos) o.op e pos) (fun env => if isOwn i env = true then (mj env).out fun j => (getO i j env).out fun d => (m env).out fun y => (o.fd d y).out fun z => setO i j z env else .stuck) := js_ps fun X W fit tk => by
  refine ⟨_, ps_augS (pe_v fit hv) pe_rd get_listI pe_rd (o.ip X) set_list ha, fun F0 H0 F H σ env D eo hp => ?_⟩
  split at hp
  · rename_i ho
    obtain ⟨l0, hl0⟩ := isOwn_of ho
    obtain ⟨p, vs0, hσ, _⟩ := eo.own hl0
    refine ⟨.ref p, hσ, jj.goS fit tk eo hp fun j u F1 H1 g1 ru eo1 hp1 => ?_⟩
    unfold getO at hp1
    split at hp1
    · rename_i l hl
      split at hp1
      · rename_i z
        split at hp1
        · rename_i d hd
          obtain ⟨vs, fp, hpp, rl⟩ := own_same eo1 hl hσ
          obtain ⟨w, hw, rw'⟩ : ∃ w, atI vs z = some w ∧ Rp S F1 w d := by
            unfold atI at hd ⊢
            rw [rl.length]
            cases q : ixN l.length z with
            | none => rw [q] at hd; cases hd
            | some n => rw [q] at hd; exact rl.get hd
          have ru' : RpB S F1 H1 u (.int z) := .sh ru
          refine ⟨p, vs, z, w, rfl, ru'.intAt, hpp, hw, je.goS fit tk eo1 hp1 fun y t F2 H2 g2 rt eo2 hp2 => ?_⟩
          cases q : o.fd d y with
          | ok z' =>
            rw [q] at hp2
            exact o.run (rw'.mono g2.ff) rt q fun w2 r2 => setO_run eo2 (ru'.grow g2) r2 hp2 hσ
          | err n => exact absurd q (o.noerr _ _ _)
          | stuck => rw [q] at hp2; exact hp2.elim
        · exact hp1.elim
      · exact hp1.elim
    · exact hp1.elim
  · exact hp.elim
end
end Py
namespace Py
open PySem PySem.Spec PyProof.Rows L2

/-! ### a, b = x, y: in which order the names are stored -/
theorem sw_par2 {env : Env} {x y : Str} {a b : Expr} {kt k2 : Nat} {px py pt pt2 : Pos} (hk : env.scope.kind = .function) (hx : env.scope.names.lookup x = some .local) (hy : env.scope.names.lookup y = some .local) (hne : (x == y) = false) (hl : (py.line == px.line) = true)
    (hst : ([a, b].any fun | .Starred .. => true | _ => false) = false) (h1 : [a, b].all (foldedForSure 8) = false) (h2 : [a, b].all (constantsAlone 8) = false) :
    swappedStores [.Tuple [.Name x px, .Name y py] kt pt] (.Tuple [a, b] k2 pt2) env = pure (some [x, y]) := by
  have kx : env.kindOf x = some .local := hx
  have ky : env.kindOf y = some .local := hy
  have hb : env.blockKind = .function := by unfold Env.blockKind; rw [hk]; rfl
  have hne' : (y == x) = false := by
    cases q : y == x with
    | false => rfl
    | true => rw [eq_of_beq q] at hne; simp at hne
  have e1 : (Option.map (fun z : Expr => z.pos.line) (List.head? [Expr.Name x px, .Name y py])).getD 0 = px.line := rfl
  unfold swappedStores
  simp only [hb, kx, ky, e1, hst, h1, h2, List.filterMap_cons, List.filterMap_nil, beq_self_eq_true, hl, List.length_cons, List.length_nil, List.eraseDups_cons, Bool.and_true, Bool.true_or, Bool.false_or, if_true, hne, hne', Bool.not_true, Bool.not_false, List.filter_cons, List.filter_nil, List.eraseDups_nil]
  refine (if_neg (by decide)).trans ((if_neg fun h => Bool.false_ne_true (hst.symm.trans h)).trans ?_)
  exact (if_neg (by decide)).trans ((if_neg (by decide)).trans (if_neg (by decide)))
theorem sw_par3 {env : Env} {x y z : Str} {a b c : Expr} {kt k2 : Nat} {px py pz pt pt2 : Pos} (hk : env.scope.kind = .function) (hx : env.scope.names.lookup x = some .local) (hy : env.scope.names.lookup y = some .local) (hz : env.scope.names.lookup z = some .local) (h12 : (y == x) = false) (h13 : (z == x) = false) (h23 : (z == y) = false) (hl : (py.line == px.line) = true) (hl3 : (pz.line == px.line) = true)
    (hst : ([a, b, c].any fun | .Starred .. => true | _ => false) = false) (h1 : [a, b, c].all (foldedForSure 8) = false) (h2 : [a, b, c].all (constantsAlone 8) = false) :
    swappedStores [.Tuple [.Name x px, .Name y py, .Name z pz] kt pt] (.Tuple [a, b, c] k2 pt2) env = pure (some [x, y, z]) := by
  have kx : env.kindOf x = some .local := hx
  have ky : env.kindOf y = some .local := hy
  have kz : env.kindOf z = some .local := hz
  have hb : env.blockKind = .function := by unfold Env.blockKind; rw [hk]; rfl
  have e1 : (Option.map (fun z : Expr => z.pos.line) (List.head? [Expr.Name x px, .Name y py, .Name z pz])).getD 0 = px.line := rfl
  unfold swappedStores
  simp only [hb, kx, ky, kz, e1, hst, h1, h2, List.filterMap_cons, List.filterMap_nil, beq_self_eq_true, hl, hl3, List.length_cons, List.length_nil, List.eraseDups_cons, Bool.and_true, Bool.true_or, Bool.false_or, if_true, h12, h13, h23, Bool.not_true, Bool.not_false, List.filter_cons, List.filter_nil, List.eraseDups_nil]
  refine (if_neg (by decide)).trans ((if_neg fun h => Bool.false_ne_true (hst.symm.trans h)).trans ?_)
  exact (if_neg (by decide)).trans ((if_neg (by decide)).trans (if_neg (by decide)))
theorem sw_subs {env : Env} {o1 i1 o2 i2 a b : Expr} {kt k2 : Nat} {p1 p2 pt pt2 : Pos} (hst : ([a, b].any fun | .Starred .. => true | _ => false) = false) :
    swappedStores [.Tuple [.Subscript o1 i1 p1, .Subscript o2 i2 p2] kt pt] (.Tuple [a, b] k2 pt2) env = pure none := by
  unfold swappedStores
  simp only [List.filterMap_cons, List.filterMap_nil, List.length_cons, List.length_nil]
  cases h : (env.blockKind != ScopeKind.function) with
  | true => rfl
  | false => exact (if_neg (by decide)).trans ((if_neg fun h => Bool.false_ne_true (hst.symm.trans h)).trans (if_pos (by decide)))
section
variable {S : Sx} {k : Nat} {f : Fm} {W : WX} {σ : Sg} {F H F1 H1 F0 H0 : Hp} {env : En} {Q : VK} {X : Cx} {e a b : Expr} {pos apos px : Pos} {D : Ends} {x : Str}
/-- the names' order by one check -/
def parC (f : Fm) (x y : Str) : Bool := (match f.sc.kind with | .function => true | _ => false) && (match f.sc.names.lookup x with | some .local => true | _ => false) && (match f.sc.names.lookup y with | some .local => true | _ => false) && !(x == y)
theorem parC_of {x y : Str} (h : parC f x y = true) : f.sc.kind = .function ∧ f.sc.names.lookup x = some .local ∧ f.sc.names.lookup y = some .local ∧ (x == y) = false := by
  unfold parC at h
  simp only [Bool.and_eq_true, Bool.not_eq_true'] at h
  obtain ⟨⟨⟨h1, h2⟩, h3⟩, h4⟩ := h
  refine ⟨?_, ?_, ?_, h4⟩
  · split at h1
    · assumption
    · cases h1
  · split at h2
    · assumption
    · cases h2
  · split at h3
    · assumption
    · cases h3
theorem js_two {x y : Str} {kt k2 : Nat} {px py pt pt2 : Pos} {m : En → R (List Dv)} (i j : Nat) (ja : JA S k f [a, b] m) (hi : locO f i x = true := by decide +kernel) (hj : locO f j y = true := by decide +kernel) (hc : parC f x y = true := by decide +kernel) (hij : i ≠ j := by decide) (hl : (py.line == px.line) = true := by rfl)
    (hst : ([a, b].any fun | .Starred .. => true | _ => false) = false := by rfl) (h1 : [a, b].all (foldedForSure 8) = false := by with_unfolding_all rfl) (h2 : [a, b].all (constantsAlone 8) = false := by with_unfolding_all rfl) :
    JS S k f (.Assign [.Tuple [.Name x px, .Name y py] kt pt] (.Tuple [a, b] k2 pt2) pos) (fun env => (m env).out fun l => match l with | [u, v] => .nx ((env.set i (some (.val u))).set j (some (.val v))) | _ => .stuck) := by
  obtain ⟨c1, c2, c3, c4⟩ := parC_of hc
  exact js_par2 i j ja hi hj hij fun env he => sw_par2 (by rw [he]; exact c1) (by rw [he]; exact c2) (by rw [he]; exact c3) c4 hl hst h1 h2
theorem js_three {x y z : Str} {c : Expr} {kt k2 : Nat} {px py pz pt pt2 : Pos} {m : En → R (List Dv)} (i j l : Nat) (ja : JA S k f [a, b, c] m) (hi : locO f i x = true := by decide +kernel) (hj : locO f j y = true := by decide +kernel) (hl : locO f l z = true := by decide +kernel) (hc : parC f y x = true := by decide +kernel) (hc2 : parC f z x = true := by decide +kernel) (hc3 : parC f z y = true := by decide +kernel)
    (hij : i ≠ j := by decide) (hil : i ≠ l := by decide) (hjl : j ≠ l := by decide) (hl2 : (py.line == px.line) = true := by rfl) (hl3 : (pz.line == px.line) = true := by rfl)
    (hst : ([a, b, c].any fun | .Starred .. => true | _ => false) = false := by rfl) (h1 : [a, b, c].all (foldedForSure 8) = false := by with_unfolding_all rfl) (h2 : [a, b, c].all (constantsAlone 8) = false := by with_unfolding_all rfl) :
    JS S k f (.Assign [.Tuple [.Name x px, .Name y py, .Name z pz] kt pt] (.Tuple [a, b, c] k2 pt2) pos) (fun env => (m env).out fun l' => match l' with | [u, v, w] => .nx (((env.set i (some (.val u))).set j (some (.val v))).set l (some (.val w))) | _ => .stuck) := by
  obtain ⟨c1, c2, c3, c4⟩ := parC_of hc
  obtain ⟨_, d2, d3, d4⟩ := parC_of hc2
  obtain ⟨_, _, _, e4⟩ := parC_of hc3
  exact js_par3 i j l ja hi hj hl hij hil hjl fun env he => sw_par3 (by rw [he]; exact c1) (by rw [he]; exact c3) (by rw [he]; exact c2) (by rw [he]; exact d2) c4 d4 e4 hl2 hl3 hst h1 h2
theorem setO_go {i : Nat} {j d : Dv} {e : En} (eo : EnvOk S F0 H0 F H σ env) {u v : V} (ru : RpB S F H u j) (rv : Rp S F v d) (he : setO i j d env = .nx e) {p : Addr} (hσ : σ[i]? = some (some (.ref p))) {P : Hp → Prop} (hp : ∀ H', EnvOk S F0 H0 F H' σ e → P H') : rSetL (.ref p) u v H P := by
  unfold setO at he
  split at he
  · rename_i l hl
    split at he
    · rename_i z
      split at he
      · rename_i n hn
        cases he
        obtain ⟨vs, fp, hpp, rl⟩ := own_same eo hl hσ
        rw [ru.intAt]
        exact ⟨p, vs, z, n, rfl, rfl, hpp, by rw [rl.length]; exact hn, hp _ (eo.write hl hσ (rl.set rv n))⟩
      · cases he
    · cases he
  · cases he
/-- x[a], x[b] = a pair -/
def swapO (i : Nat) (ma mb : En → R Dv) (d : Dv) (env : En) : Out := match d with
  | .tup [u, v] => if isOwn i env = true then (ma env).out fun j => match setO i j u env with
      | .nx e => if isOwn i e = true then (mb e).out fun j2 => match setO i j2 v e with
        | .nx e' => .nx e'
        | _ => .stuck
        else .stuck
      | _ => .stuck
    else .stuck
  | _ => .stuck
theorem js_swap {e1 e2 : Expr} {kt k2 : Nat} {p1 p2 px2 pt pt2 : Pos} {m ma mb : En → R Dv} (i : Nat) (je : JD S k f (.Tuple [e1, e2] k2 pt2) m) (ja : JB S k f a ma) (jb : JB S k f b mb) (hv : visA f i x = true := by decide +kernel)
    (hst : ([e1, e2].any fun | .Starred .. => true | _ => false) = false := by rfl) (hs : ∀ env, swapsWithSole [.Tuple [.Subscript (.Name x px) a p1, .Subscript (.Name x px2) b p2] kt pt] (.Tuple [e1, e2] k2 pt2) pos.line env = pure false := by intro _; rfl)
    (ha : ∀ env v, assign (.Subscript (.Name x px) a p1) env v = (do
      let ov ← holding [v] (eval (.Name x px) env)
      let iv ← holding [v, ov] (eval a env)
      standAt p1
      holding [v, ov, iv] (setItem ov iv v)
      release [v, ov, iv] []) := by intro _ _; rfl)
    (hb : ∀ env v, assign (.Subscript (.Name x px2) b p2) env v = (do
      let ov ← holding [v] (eval (.Name x px2) env)
      let iv ← holding [v, ov] (eval b env)
      standAt p2
      holding [v, ov, iv] (setItem ov iv v)
      release [v, ov, iv] []) := by intro _ _; rfl) :
    JS S k f (.Assign [.Tuple [.Subscript (.Name x px) a p1, .Subscript (.Name x px2) b p2] kt pt] (.Tuple [e1, e2] k2 pt2) pos) (fun env => (m env).out fun d => swapO i ma mb d env) := js_ps fun X W fit tk =>
  ⟨_, ps_asg pe_rd (pg_tup (n := 2) fit.calm (pgs_cons (pg_sub (pe_v fit hv) pe_rd set_list (ha X.env)) (pgs_cons (pg_sub (pe_v fit hv) pe_rd set_list (hb X.env)) pgs_nil))) (hs X.env) (sw_subs hst) rfl,
    fun F0 H0 F H σ env D eo hp => je.goS fit tk eo hp fun d v F1 H1 g1 rv eo1 hp1 => by
    unfold swapO at hp1
    split at hp1
    · rename_i u w
      cases rv with
      | @tup p xs _ hpp rl =>
        cases rl with
        | @cons v1 vr _ _ r1 rl => cases rl with
          | @cons v2 vr2 _ _ r2 rl => cases rl with
            | nil =>
              split at hp1
              · rename_i ho
                obtain ⟨l, hl⟩ := isOwn_of ho
                obtain ⟨q, vs, hσ, _⟩ := eo1.own hl
                refine ⟨p, [v1, v2], rfl, SqT.of (eo1.g.fh _ _ hpp), rfl, v1, [v2], rfl, .ref q, hσ, ?_⟩
                refine ja.goS fit tk eo1 hp1 fun j t F2 H2 g2 rt eo2 hp2 => ?_
                cases q1 : setO i j u env with
                | nx e =>
                  rw [q1] at hp2
                  refine setO_go eo2 rt (r1.mono g2.ff) q1 hσ fun H3 eo3 => ⟨v2, [], rfl, ?_⟩
                  replace hp2 : PostS S W F0 H0 F2 (if isOwn i e = true then (mb e).out fun j2 => match setO i j2 w e with | .nx e' => .nx e' | _ => .stuck else .stuck) D := hp2
                  split at hp2
                  · rename_i ho2
                    refine ⟨.ref q, hσ, jb.goS fit tk eo3 hp2 fun j2 t2 F4 H4 g4 rt2 eo4 hp4 => ?_⟩
                    cases q2 : setO i j2 w e with
                    | nx e' =>
                      rw [q2] at hp4
                      exact setO_go eo4 rt2 (r2.mono (g2.ff.trans g4.ff)) q2 hσ fun H5 eo5 => ⟨rfl, hp4 σ F4 H5 (Evl.Ex.refl F4) eo5⟩
                    | _ => rw [q2] at hp4; exact hp4.elim
                  · exact hp2.elim
                | _ => rw [q1] at hp2; exact hp2.elim
              · exact hp1.elim
    · exact hp1.elim⟩
end
end Py
namespace Py
open PySem PySem.Spec PyProof.Rows L2

/-! ### the list of draws is nothing to data -/
section
variable {S S' : Sx} {F : Hp}
mutual
theorem Rp.st (q : S'.toSc = S.toSc) : ∀ {v : V} {d : Dv}, Rp S F v d → Rp S' F v d
  | _, _, .non => .non
  | _, _, .bl b => .bl b
  | _, _, .int i => .int i
  | _, _, .str x => .str x
  | _, _, .lst h a => .lst h (RpL.st q a)
  | _, _, .tup h a => .tup h (RpL.st q a)
  | _, _, .fn h => .fn (by rw [q]; exact h)
  | _, _, .ins h1 h2 h3 h4 => .ins (by rw [q]; exact h1) (by rw [q]; exact h2) (by rw [q]; exact h3) (RpL.st q h4)
theorem RpL.st (q : S'.toSc = S.toSc) : ∀ {vs : List V} {ds : List Dv}, RpL S F vs ds → RpL S' F vs ds
  | _, _, .nil => .nil
  | _, _, .cons h t => .cons (Rp.st q h) (RpL.st q t)
end
theorem gS_st (q : S'.toSc = S.toSc) {H F' H' : Hp} {v : V} {s : Sl} (h : gS S H F' H' v s) : gS S' H F' H' v s := by
  cases s with
  | val d => exact Rp.st q h
  | own l =>
    obtain ⟨p, vs, a, b, c, d, e⟩ := h
    exact ⟨p, vs, a, b, c, d, RpL.st q e⟩
  | st x y => exact h
  | dic x => exact h
  | obj x y => exact h
end
abbrev Sc.at (S : Sc) (o : Option Addr) : Sx := ⟨S, o⟩
/-! ### what a def promises -/
def spOf (S : Sc) (n : Nat) (m : List Dv → R Sl) : Sp := fun vs H Q E => ∃ F ds, Ext F H ∧ ds.length = n ∧ RpL (S.at none) F vs ds ∧ match m ds with
  | .ok s => ∀ v F' H', Grow F H F' H' → gS (S.at none) H F' H' v s → Q v H'
  | .err x => ∀ c d F' H', Grow F H F' H' → ExcR (S.at none) x c d → E c d H'
  | .stuck => False
/-- with a list of draws ahead of its other parameters -/
def spSt (S : Sc) (n : Nat) (m : Int → Int → List Dv → R (Dv × Int × Int)) : Sp := fun vs H Q E => ∃ p vs' F ds a b, vs = .ref p :: vs' ∧ Ext F H ∧ ds.length = n ∧ RpL (S.at (some p)) F vs' ds ∧ F p = none ∧ H p = some (.lst [.int a, .int b]) ∧ match m a b ds with
  | .ok r => ∀ v F' H', GrowX (S.at (some p)) F H F' H' → F' p = none → H' p = some (.lst [.int r.2.1, .int r.2.2]) → Rp (S.at (some p)) F' v r.1 → Q v H'
  | _ => False
/-- a def at f -/
def FaOk (S : Sc) (k : Nat) (f : Addr) (sp : Sp) : Prop := ∃ (fd : FuncData) (ps : List Str), FnOk S.P S.w S.K S.mg S.base (CX S.P S.w) k f fd ps sp ∧ PySem.W.keepIn S.K (.ref f) = true ∧ Binds S.K fd ps []
/-- the def named x, with n parameters -/
def FdOk (S : Sc) (k : Nat) (x : Str) (n : Nat) (m : List Dv → R Sl) : Prop := (∀ ds, m ds ≠ .stuck → ds.length = n) ∧ ∃ f, S.mg x = some (.ref f) ∧ FaOk S k f (spOf S n m)
def FtOk (S : Sc) (k : Nat) (x : Str) (n : Nat) (m : Int → Int → List Dv → R (Dv × Int × Int)) : Prop := (∀ a b ds, m a b ds ≠ .stuck → ds.length = n) ∧ ∃ f, S.mg x = some (.ref f) ∧ FaOk S k f (spSt S n m)
theorem FaOk.le {S : Sc} {j k : Nat} {f : Addr} {sp : Sp} (h : FaOk S j f sp) (l : j ≤ k) : FaOk S k f sp := by
  obtain ⟨fd, ps, F, r⟩ := h
  exact ⟨fd, ps, F.mono l, r⟩
theorem FdOk.le {S : Sc} {j k : Nat} {x : Str} {n : Nat} {m : List Dv → R Sl} (h : FdOk S j x n m) (l : j ≤ k) : FdOk S k x n m := by
  obtain ⟨a, f, b, c⟩ := h
  exact ⟨a, f, b, c.le l⟩
theorem FtOk.le {S : Sc} {j k : Nat} {x : Str} {n : Nat} {m : Int → Int → List Dv → R (Dv × Int × Int)} (h : FtOk S j x n m) (l : j ≤ k) : FtOk S k x n m := by
  obtain ⟨a, f, b, c⟩ := h
  exact ⟨a, f, b, c.le l⟩
/-- the class named x, an own error class, its number n -/
def ClsOk (S : Sc) (x : Str) (n : Nat) : Prop := ∃ C, S.mg x = some (.ref C) ∧ S.ct n = some C ∧ PySem.W.excIn S.K C [.type "ValueError", .type "Exception", .type "BaseException", .type "object"] "ValueError.__new__" = true ∧
  PySem.W.keepIn S.K (.ref C) = true ∧ PySem.W.subIn S.K (.ref C) (.type "BaseException") = some true ∧ PySem.W.typeIn S.K (.ref C) = some (.type "type") ∧ PySem.W.exmOne S.K (.ref C) (.ref C) = some true
section
variable {S : Sx} {k n : Nat} {f : Fm} {W : WX} {σ : Sg} {F H F1 H1 F0 H0 : Hp} {env : En} {Q : VK} {X : Cx} {e a b : Expr} {es : List Expr} {pos apos p : Pos} {D : Ends} {x : Str} {st : Stmt}
theorem fn_at {sp : Sp} {fa : Addr} {fd : FuncData} {ps : List Str} (fit : Fit S k f X) (F : FnOk S.P S.w S.K S.mg S.base (CX S.P S.w) k fa fd ps sp) : FnOk X.prog X.w X.K X.mg X.base (CX X.prog X.w) k fa fd ps sp := by
  rw [fit.hP, fit.hw, fit.hK, fit.hm, fit.hb]
  exact F
theorem sp_go {m : List Dv → R Sl} {l : List Dv} {vs : List V} {E : XK} (hn : m l ≠ .stuck → l.length = n) (e : Ext F H) (r : RpL S F vs l) (hp : Post S W σ F H (gS S) (m l) Q) (hE : ∀ c d H', W c d σ H' → E c d H') : spOf S.toSc n m vs H Q E := by
  have ns : m l ≠ .stuck := fun z => by rw [z] at hp; exact hp
  refine ⟨F, l, e, hn ns, RpL.st (S := S) (S' := S.toSc.at none) rfl r, ?_⟩
  cases q : m l with
  | stuck => exact absurd q ns
  | err z => rw [q] at hp; exact fun c d F2 H2 g2 ex => hE _ _ _ (hp c d F2 H2 g2 ex)
  | ok s => rw [q] at hp; exact fun v F2 H2 g2 gd => hp v F2 H2 g2 (gS_st (S := S.toSc.at none) (S' := S) rfl gd)
/-- the call of a def -/
theorem jx_call {m : List Dv → R Sl} {ma : En → R (List Dv)} (h : FdOk S.toSc k x n m) (ja : JA S k f (e :: es) ma) (hg : glB f.sc x = true := by decide +kernel) :
    JX S k f (.Call (.Name x p) (e :: es) [] pos) (fun env => (ma env).bind m) := j_pe fun X W fit tk => by
  obtain ⟨hn, fa, hm, fd, ps, Fn, hk, hb⟩ := h
  obtain ⟨t, pa, ht⟩ := ja.2 X W fit tk
  obtain ⟨g1, g2, _⟩ := glB_of fit hg
  refine ⟨_, pe_callS (fn_at fit Fn) fit.room g1 (by rw [fit.hm]; exact hm) (by rw [fit.hK]; exact hk) (by rw [fit.hK]; exact hb) (passAt tk) pa g2 (by rw [star_of (ja.1 e List.mem_cons_self)]) (plain_any (fun e' he => ja.1 e' (List.mem_cons_of_mem _ he)) pos X.env), fun F0 H0 F H σ env Q eo hp => ?_⟩
  refine ht F0 H0 F H σ env _ eo ?_
  cases q : ma env with
  | stuck => rw [q] at hp; exact hp.elim
  | err z => rw [q] at hp; exact hp
  | ok l =>
    rw [q] at hp
    intro vs F' H' g r
    exact sp_go (hn l) g.fh r (Post.grow anti_S (show Post S W σ F H (gS S) (m l) Q from hp) g) fun c d H' w => w
/-- .. with a list of draws first -/
def callT (i : Nat) (m : Int → Int → List Dv → R (Dv × Int × Int)) (ma : En → R (List Dv)) : En → R (Dv × En) := fun env => match env[i]? with
  | some (some (.st a b)) => (ma env).bind fun l => (m a b l).calm.map fun r => (r.1, env.set i (some (.st r.2.1 r.2.2)))
  | _ => .stuck
theorem je_call {m : Int → Int → List Dv → R (Dv × Int × Int)} {ma : En → R (List Dv)} {y : Str} {py : Pos} (i : Nat) (h : FtOk S.toSc k x n m) (ja : JA S k f es ma) (hv : visA f i y = true := by decide +kernel) (hg : glB f.sc x = true := by decide +kernel) :
    JE S k f (.Call (.Name x p) (.Name y py :: es) [] pos) (callT i m ma) := fun X W fit tk F0 H0 F H σ env Q eo hp pins s I => by
  obtain ⟨hn, fa, hm, fd, ps, Fn, hk, hb⟩ := h
  obtain ⟨t, pa, ht⟩ := ja.2 X W fit tk
  obtain ⟨g1, g2, _⟩ := glB_of fit hg
  refine (pe_callS (fn_at fit Fn) fit.room g1 (by rw [fit.hm]; exact hm) (by rw [fit.hK]; exact hk) (by rw [fit.hK]; exact hb) (passAt tk) (pa_cons (pe_v fit hv) pa (by rfl)) g2 (by rfl) (plain_any ja.1 pos X.env)).run pins s σ H Q I ?_
  unfold callT at hp
  split at hp
  · rename_i a b hi
    obtain ⟨q, hσ, hs, h0, fq, hq⟩ := eo.st hi
    refine ⟨.ref q, hσ, ht F0 H0 F H σ env _ eo ?_⟩
    cases qa : ma env with
    | stuck => rw [qa] at hp; exact hp.elim
    | err z => rw [qa] at hp; exact fun c d F' H' g ex => hp c d F' H' (eo.g.grow g) ex
    | ok l =>
      rw [qa] at hp
      intro vs F' H' g r
      replace hp : PostE S W σ F0 H0 F H env ((m a b l).calm.map fun r => (r.1, env.set i (some (.st r.2.1 r.2.2)))) Q := hp
      have eo1 := eo.grow g
      cases qm : m a b l with
      | stuck => rw [qm] at hp; exact hp.elim
      | err z => rw [qm] at hp; exact hp.elim
      | ok rr =>
        rw [qm] at hp
        have eS : S = S.toSc.at (some q) := by
          obtain ⟨c, o⟩ := S
          cases hs
          rfl
        obtain ⟨q', hσ', _, _, fq', hq'⟩ := eo1.st hi
        rw [hσ] at hσ'
        cases hσ'
        refine ⟨q, vs, F', l, a, b, rfl, g.fh, hn a b l (by rw [qm]; intro z; cases z), by rw [← eS]; exact r, fq', hq', ?_⟩
        rw [qm]
        intro v F2 H2 gx f2 h2 rv
        rw [← eS] at gx rv
        have oth : ∀ a', Apart σ env a' → a' ≠ q := fun a' ap z => ap i _ rfl hi (by rw [hσ, z])
        refine hp v F2 H2 ⟨g.ff.trans gx.ff, gx.fh, fun a' o ap h => ?_, fun a' ap h => ?_⟩ (fun j l hl hj => ?_) ?_ rv
        · exact gx.hh a' o (fun z => oth a' ap (Option.some.inj (z.symm.trans hs))) (g.hh a' o h)
        · exact (gx.fz a' (Ext.there g.hh h)).trans (g.fz a' h)
        · rcases En.set_at hj with ⟨z, _⟩ | ⟨z, w⟩
          · exact ⟨.st a b, rfl, z ▸ hi⟩
          · exact ⟨l, hl, w⟩
        · refine ⟨eo1.g.trans gx, by rw [List.length_set, eo1.len], fun j => ?_, eo1.dis' rfl hi⟩
          by_cases hj : i = j
          · subst hj
            rw [List.getElem?_set_self (List.getElem?_eq_some_iff.mp hi).1, hσ]
            exact ⟨q, rfl, hs, h0, f2, h2⟩
          · rw [List.getElem?_set_ne hj]
            have s := eo1.slot j
            have hd := eo1.dis i j (.st a b)
            generalize hx : σ[j]?.getD none = x at s ⊢
            generalize hy : env[j]?.getD none = y at s ⊢
            cases y with
            | none => cases x <;> trivial
            | some sl =>
              cases x with
              | none => exact s
              | some v =>
                have hej : env[j]? = some (some sl) := by
                  cases z : env[j]? with
                  | none => rw [z] at hy; cases hy
                  | some w => rw [z] at hy; exact congrArg some hy
                have hsj : σ[j]? = some (some v) := by
                  cases z : σ[j]? with
                  | none => rw [z] at hx; cases hx
                  | some w => rw [z] at hx; exact congrArg some hx
                cases sl with
                | val d => exact Rp.mono gx.ff s
                | own m =>
                  obtain ⟨a', us, rfl, a0, af, ah, ar⟩ := s
                  have ne : a' ≠ q := fun z => hj (hd _ q rfl rfl hi hej hσ (z ▸ hsj))
                  exact ⟨a', us, rfl, a0, (gx.fz a' (by rw [ah]; intro z; cases z)).trans af, gx.hh a' _ (fun z => ne (Option.some.inj (z.symm.trans hs))) ah, ar.mono gx.ff⟩
                | st x' y' =>
                  obtain ⟨a', rfl, a1, a0, af, ah⟩ := s
                  have e : a' = q := Option.some.inj (a1.symm.trans hs)
                  exact absurd (hd _ q rfl rfl hi hej hσ (e ▸ hsj)) hj
                | dic m =>
                  obtain ⟨a', us, rfl, a0, af, ah, ar⟩ := s
                  have ne : a' ≠ q := fun z => hj (hd _ q rfl rfl hi hej hσ (z ▸ hsj))
                  exact ⟨a', us, rfl, a0, (gx.fz a' (by rw [ah]; intro z; cases z)).trans af, gx.hh a' _ (fun z => ne (Option.some.inj (z.symm.trans hs))) ah, ar.mono gx.ff⟩
                | obj x' y' =>
                  obtain ⟨a', C, dx, vs', rfl, a1, a2, a0, af, ah, al, ar⟩ := s
                  have e : a' = q := Option.some.inj (a1.symm.trans hs)
                  exact absurd (hd _ q rfl rfl hi hej hσ (e ▸ hsj)) hj
  · exact hp.elim
/-- the draws' list is read and written by its own def -/
def stAt (i : Nat) (j : Int) (env : En) : R Dv := match env[i]? with
  | some (some (.st a b)) => if j = 0 then .ok (.int a) else if j = 1 then .ok (.int b) else .stuck
  | _ => .stuck
theorem jd_stAt {j : Int} {c : Nat} {p2 : Pos} (i : Nat) (hv : visA f i x = true := by decide +kernel) : JD S k f (.Subscript (.Name x p) (.Constant (.int j) c p2) pos) (stAt i j) := j_pe fun X W fit tk =>
  ⟨_, pe_ix ix_list (pe_v fit hv) pe_int (fun _ _ => rfl), fun F0 H0 F H σ env Q eo hp => by
    unfold stAt at hp
    split at hp
    · rename_i a b hi
      obtain ⟨q, hσ, hs, h0, fq, hq⟩ := eo.st hi
      refine ⟨.ref q, hσ, ?_⟩
      split at hp
      · rename_i z
        subst z
        exact ⟨q, _, 0, .int a, rfl, rfl, SqL.of hq, rfl, hp.okv eo.g.fh (.int a)⟩
      · split at hp
        · rename_i z
          subst z
          exact ⟨q, _, 1, .int b, rfl, rfl, SqL.of hq, rfl, hp.okv eo.g.fh (.int b)⟩
        · exact hp.elim
    · exact hp.elim⟩
def stSet (i : Nat) (j : Int) (d : Dv) (env : En) : Out := match env[i]? with
  | some (some (.st a b)) => match d with
    | .int z => if j = 0 then .nx (env.set i (some (.st z b))) else if j = 1 then .nx (env.set i (some (.st a z))) else .stuck
    | _ => .stuck
  | _ => .stuck
theorem js_stSet {j : Int} {c : Nat} {p2 : Pos} {m : En → R Dv} (i : Nat) (je : JD S k f e m) (hv : visA f i x = true := by decide +kernel) (hs : ∀ env, swapsWithSole [.Subscript (.Name x p) (.Constant (.int j) c p2) apos] e pos.line env = pure false := by intro _; rfl)
    (hw : ∀ env, swappedStores [.Subscript (.Name x p) (.Constant (.int j) c p2) apos] e env = pure none := by intro _; rfl) : JS S k f (.Assign [.Subscript (.Name x p) (.Constant (.int j) c p2) apos] e pos) (fun env => (m env).out fun d => stSet i j d env) := js_ps fun X W fit tk =>
  ⟨_, ps_asg pe_rd (pg_sub (pe_v fit hv) pe_int set_list (fun _ => rfl)) (hs X.env) (hw X.env) rfl, fun F0 H0 F H σ env D eo hp => je.goS fit tk eo hp fun d v F1 H1 g1 rv eo1 hp1 => by
    unfold stSet at hp1
    split at hp1
    · rename_i a b hi
      obtain ⟨q, hσ, hs, h0, fq, hq⟩ := eo1.st hi
      split at hp1
      · rename_i z
        cases rv
        split at hp1
        · rename_i w
          subst w
          exact ⟨.ref q, hσ, q, _, 0, 0, rfl, rfl, hq, rfl, hp1 σ F1 _ (Evl.Ex.refl F1) (eo1.draw z b hi hσ)⟩
        · split at hp1
          · rename_i w
            subst w
            exact ⟨.ref q, hσ, q, _, 1, 1, rfl, rfl, hq, rfl, hp1 σ F1 _ (Evl.Ex.refl F1) (eo1.draw a z hi hσ)⟩
          · exact hp1.elim
      · exact hp1.elim
    · exact hp1.elim⟩
/-- raise X('..') -/
theorem js_raise {t : Str} {j : Nat} {p2 : Pos} (h : ClsOk S.toSc x n) (hg : glB f.sc x = true := by decide +kernel) : JS S k f (.Raise (some (.Call (.Name x p) [.Constant (.str t) j p2] [] apos)) none pos) (fun _ => .err n) := js_ps fun X W fit tk => by
  obtain ⟨C, hm, hc, hx, hk, hs, ht, _⟩ := h
  obtain ⟨g1, g2, _⟩ := glB_of fit hg
  exact ⟨_, ps_raise fit.calm tk (pmk_own PySem.F.excBase_ValueError (by rw [fit.hK]; exact hx) (by rw [fit.hm]; exact hm) (by rw [fit.hK]; exact hk) (raises_own (by rw [fit.hK]; exact hs) (by rw [fit.hK]; exact ht)) g1 g2),
    fun F0 H0 F H σ env D eo hp => hp (.ref C) none σ F H eo.g ⟨C, hc, rfl, rfl⟩⟩
end

/-! ### from a body to its def -/
def finO : Out → R Sl
  | .nx _ => .ok (.val .non)
  | .rt s _ => .ok s
  | .err n => .err n
  | _ => .stuck
def funM (n z : Nat) (body : En → Out) : List Dv → R Sl := fun ds => if ds.length = n then finO (body (ds.map (fun d => some (.val d)) ++ List.replicate z none)) else .stuck
def finT : Out → R (Dv × Int × Int)
  | .rt s e => match e with
    | some (.st a b) :: _ => match s with
      | .val d => .ok (d, a, b)
      | .own l => .ok (.lst l, a, b)
      | _ => .stuck
    | _ => .stuck
  | _ => .stuck
def funT (n z : Nat) (body : En → Out) : Int → Int → List Dv → R (Dv × Int × Int) := fun a b ds => if ds.length = n then finT (body (some (.st a b) :: (ds.map (fun d => some (.val d)) ++ List.replicate z none))) else .stuck
/-- what the top has written for a def -/
def DefOk (S : Sc) (x : Str) (st : Stmt) (ps : List Str) : Prop := ∃ (f : Addr) (fd : FuncData), Fun S.K x x st f fd ∧ S.mg x = some (.ref f) ∧ Binds S.K fd ps []
theorem start_env {S : Sx} {F H : Hp} {N : List Str} {vs : List V} {ds : List Dv} (e : Ext F H) (r : RpL S F vs ds) : EnvOk S F H F H (start N vs) (ds.map (fun d => some (Sl.val d)) ++ List.replicate (N.length - ds.length) none) := by
  have hl := r.length
  have at_ : ∀ (i : Nat), (∃ d v, (ds.map (fun d => some (Sl.val d)) ++ List.replicate (N.length - ds.length) none)[i]? = some (some (.val d)) ∧ (start N vs)[i]? = some (some v) ∧ Rp S F v d) ∨ (ds.map (fun d => some (Sl.val d)) ++ List.replicate (N.length - ds.length) none)[i]?.getD none = none := fun i => by
    by_cases hi : i < ds.length
    · left
      obtain ⟨v, hv, rv⟩ := r.get (List.getElem?_eq_getElem hi)
      refine ⟨ds[i], v, ?_, ?_, rv⟩
      · rw [List.getElem?_append_left (by rw [List.length_map]; exact hi), List.getElem?_map, List.getElem?_eq_getElem hi]
        rfl
      · unfold L2.start
        rw [List.getElem?_append_left (by rw [List.length_map, hl]; exact hi), List.getElem?_map, hv]
        rfl
    · right
      rw [List.getElem?_append_right (by rw [List.length_map]; omega)]
      cases q : (List.replicate (N.length - ds.length) (none : Option Sl))[i - (ds.map (fun d => some (Sl.val d))).length]? with
      | none => rfl
      | some y =>
        have z := List.mem_of_getElem? q
        rw [List.mem_replicate] at z
        rw [z.2]
        rfl
  refine ⟨⟨Evl.Ex.refl F, fun a o _ h => h, fun a h => h, e, fun _ _ => rfl⟩, ?_, fun i => ?_, fun i j l m p h1 h2 h3 h4 _ _ => ?_⟩
  · unfold L2.start
    rw [List.length_append, List.length_append, List.length_map, List.length_map, List.length_replicate, List.length_replicate, hl]
  · rcases at_ i with ⟨d, v, h1, h2, h3⟩ | h
    · rw [h1, h2]
      exact h3
    · rw [h]
      cases (start N vs)[i]?.getD none <;> trivial
  · rcases at_ i with ⟨d, v, g1, g2, g3⟩ | h
    · rw [g1] at h3
      cases h3
      cases h1
    · rw [h3] at h
      cases h
section
variable {S : Sc} {k : Nat} {x : Str} {st : Stmt} {N ps : List Str} {body : En → Out}
def fmOf (N : List Str) (st : Stmt) : Fm := ⟨N, defScope st, fun _ => true⟩
theorem fd_of (d : DefOk S x st ps) (sc : FnScope N ps (defScope st)) (hb : JSs (S.at none) k (fmOf N st) (defBody st) body) : FdOk S (k + 1) x ps.length (funM ps.length (N.length - ps.length) body) := by
  obtain ⟨f, fd, F, hm, hbi⟩ := d
  refine ⟨fun ds h => ?_, f, hm, fd, ps, F.okX sc (fun vs H Q E h => ?_) (fun cdv A outer s H vs Q E hr h => ?_), F.kp, hbi⟩
  · unfold funM at h
    split at h
    · assumption
    · exact absurd rfl h
  · obtain ⟨F', ds, _, hl, r, _⟩ := h
    rw [r.length, hl]
  · obtain ⟨F', ds, ex, hl, r, h⟩ := h
    refine ⟨_, pss_rd, fun pins s1 I => ?_⟩
    unfold funM at h
    rw [if_pos hl] at h
    refine hb (cxOf (CX S.P S.w) S.P S.w S.K S.mg S.base N x (defScope st) f cdv A outer s H E) (fun cls d _ H => E cls d H) ⟨rfl, rfl, rfl, rfl, rfl, rfl, rfl, rfl, rfl, hr, passes_of rfl, sc.nd⟩ (takes_of rfl rfl rfl rfl) F' H F' H (start N vs) _ _ (start_env ex r) ?_ pins s1 I
    rw [hl]
    have gr : ∀ {F2 H2 : Hp}, GrowX (S.at none) F' H F2 H2 → Grow F' H F2 H2 := fun {F2 H2} g => ⟨g.ff, fun a o h => g.hh a o (by intro z; cases z) h, g.fh, g.fz⟩
    cases q : body (ds.map (fun d => some (.val d)) ++ List.replicate (N.length - ps.length) none) with
    | nx e => rw [q] at h; exact fun σ' F2 H2 x2 e2 => h .non F2 H2 (gr e2.g) .non
    | rt s' e => rw [q] at h; exact fun v σ' F2 H2 g _ gd => h v F2 H2 (gr g) gd
    | err n => rw [q] at h; exact fun c d σ' F2 H2 g ex => h c d F2 H2 (gr g) ex
    | bk e => rw [q] at h; exact h.elim
    | ct e => rw [q] at h; exact h.elim
    | stuck => rw [q] at h; exact h.elim
theorem ft_of {q : Str} (d : DefOk S x st (q :: ps)) (sc : FnScope N (q :: ps) (defScope st)) (hb : ∀ p, JSs (S.at (some p)) k (fmOf N st) (defBody st) body) : FtOk S (k + 1) x ps.length (funT ps.length (N.length - (ps.length + 1)) body) := by
  obtain ⟨f, fd, F, hm, hbi⟩ := d
  refine ⟨fun a b ds h => ?_, f, hm, fd, q :: ps, F.okX sc (fun vs H Q E h => ?_) (fun cdv A outer s H vs Q E hr h => ?_), F.kp, hbi⟩
  · unfold funT at h
    split at h
    · assumption
    · exact absurd rfl h
  · obtain ⟨p, vs', F', ds, a, b, rfl, _, hl, r, _⟩ := h
    rw [List.length_cons, List.length_cons, r.length, hl]
  · obtain ⟨p, vs', F', ds, a, b, rfl, ex, hl, r, fp, hp, h⟩ := h
    refine ⟨_, pss_rd, fun pins s1 I => ?_⟩
    unfold funT at h
    rw [if_pos hl] at h
    have e0 : EnvOk (S.at (some p)) F' H F' H (start N (.ref p :: vs')) (some (.st a b) :: (ds.map (fun d => some (.val d)) ++ List.replicate (N.length - (ps.length + 1)) none)) := by
      have z := start_env (N := N.drop 1) ex r
      have ez : start N (.ref p :: vs') = some (.ref p) :: start (N.drop 1) vs' := by
        unfold L2.start
        rw [List.length_drop, List.map_cons, List.length_cons, List.cons_append, Nat.sub_sub, Nat.add_comm 1]
      have en : (N.drop 1).length - ds.length = N.length - (ps.length + 1) := by rw [List.length_drop, hl]; omega
      rw [en] at z
      rw [ez]
      refine ⟨z.g, by rw [List.length_cons, List.length_cons, z.len], fun i => ?_, fun i j l m p' h1 h2 h3 h4 h5 h6 => ?_⟩
      · cases i with
        | zero => exact ⟨p, rfl, rfl, (by rw [hp]; intro z; cases z), fp, hp⟩
        | succ i =>
          have w := z.slot i
          simpa using w
      · have np : ∀ {i : Nat} {l : Sl}, l.pv = true → (ds.map (fun d => some (Sl.val d)) ++ List.replicate (N.length - (ps.length + 1)) none)[i]? = some (some l) → False := fun {i l} hl hq => by
          have m := List.mem_of_getElem? hq
          rcases List.mem_append.mp m with m | m
          · obtain ⟨d, _, e⟩ := List.mem_map.mp m
            cases e
            cases hl
          · rw [List.mem_replicate] at m
            cases m.2
        cases i with
        | zero =>
          cases j with
          | zero => rfl
          | succ j => exact (np h2 (by simpa using h4)).elim
        | succ i => exact (np h1 (by simpa using h3)).elim
    refine hb p (cxOf (CX S.P S.w) S.P S.w S.K S.mg S.base N x (defScope st) f cdv A outer s H E) (fun cls d _ H => E cls d H) ⟨rfl, rfl, rfl, rfl, rfl, rfl, rfl, rfl, rfl, hr, passes_of rfl, sc.nd⟩ (takes_of rfl rfl rfl rfl) F' H F' H _ _ _ e0 ?_ pins s1 I
    cases qo : body (some (.st a b) :: (ds.map (fun d => some (.val d)) ++ List.replicate (N.length - (ps.length + 1)) none)) with
    | rt s' e =>
      rw [qo] at h
      intro v σ' F2 H2 g eo gd
      unfold finT at h
      cases e with
      | nil => exact h.elim
      | cons e0 e =>
        cases e0 with
        | none => exact h.elim
        | some sl =>
          cases sl with
          | val d => exact h.elim
          | own l => exact h.elim
          | st a' b' =>
            have eo := eo (by intro z; cases z)
            obtain ⟨p', hσ, hs, h0, fp', hp'⟩ := eo.st (i := 0) rfl
            have e1 : p = p' := Option.some.inj hs
            subst e1
            cases s' with
            | val d => exact h v F2 H2 g fp' hp' gd
            | own l =>
              obtain ⟨D, us, rfl, d0, fD, hD, rl⟩ := gd
              have nD : p ≠ D := fun z => h0 (z ▸ d0)
              refine h (.ref D) (upd F2 D (.lst us)) H2 ⟨g.ff.trans (Evl.Ex.new fD), g.hh, g.he, fun a u e => ?_, fun a ha => ?_⟩ (by rw [upd_ne nD]; exact fp') hp' (.lst upd_same (rl.mono (Evl.Ex.new fD)))
              · by_cases z : a = D
                · subst z
                  rw [upd_same] at e
                  rw [hD]
                  exact e
                · rw [upd_ne z] at e
                  exact g.fh a u e
              · rw [upd_ne fun z => ha (by rw [z]; exact d0)]
                exact g.fz a ha
            | st x y => exact gd.elim
            | dic x => exact gd.elim
            | obj x y => exact gd.elim
          | dic x => exact h.elim
          | obj x y => exact h.elim
    | _ => rw [qo] at h; exact h.elim
end
end Py
namespace Py
open PySem PySem.Spec PyProof.Rows L2

section
variable {S : Sx} {k : Nat} {f : Fm} {W : WX} {σ : Sg} {F H F1 H1 F0 H0 : Hp} {env : En} {Q : VK} {X : Cx} {e a b c d : Expr} {pos p p2 : Pos} {D : Ends} {x : Str} {ma mb mc md : En → R Dv}
/-! ### slices -/
def cutL (l : List Dv) (lo hi : Option Int) : List Dv := (l.drop (HT.sIx l.length 0 lo)).take (HT.sIx l.length l.length hi - HT.sIx l.length 0 lo)
def sliceD (x : Dv) (lo hi : Option Int) : R Sl := match x with
  | .lst l => .ok (.own (cutL l lo hi))
  | .tup l => .ok (.val (.tup (cutL l lo hi)))
  | _ => .stuck
theorem RpL.cut {vs : List V} {l : List Dv} (r : RpL S F vs l) (lo hi : Option Int) : RpL S F (cutV vs lo hi) (cutL l lo hi) := by
  unfold cutV cutL
  rw [r.length]
  exact (r.drop _).take _
def intPart : Dv → R (Option Int)
  | .int i => .ok (some i)
  | _ => .stuck
def JO (S : Sx) (k : Nat) (f : Fm) (o : Option Expr) (m : En → R (Option Int)) : Prop := ∀ (X : Cx) (W : WX), Fit S k f X → Takes X W → ∃ t, PO X o t ∧ ∀ (F0 H0 F H : Hp) (σ : Sg) (env : En) (Q : Option Int → Hp → Prop), EnvOk S F0 H0 F H σ env →
  (match m env with
    | .ok i => ∀ F' H', Grow F H F' H' → Q i H'
    | .err x => ∀ c d F' H', Grow F H F' H' → ExcR S x c d → W c d σ H'
    | .stuck => False) → t σ H Q
theorem jo_none : JO S k f none (fun _ => .ok none) := fun X W fit tk => ⟨_, po_none, fun F0 H0 F H σ env Q eo hp => hp F H (Grow.refl eo.g.fh)⟩
theorem jo_some (ja : JD S k f a ma) : JO S k f (some a) (fun env => (ma env).bind intPart) := fun X W fit tk => ⟨_, po_some pe_rd, fun F0 H0 F H σ env Q eo hp pins s I => by
  refine ja X W fit tk pins s F0 H0 F H σ env _ eo I ?_
  dsimp only at hp
  cases q : ma env with
  | stuck => rw [q] at hp; exact hp.elim
  | err n => rw [q] at hp; exact hp
  | ok y =>
    rw [q] at hp
    intro v F' H' g r
    cases y with
    | int i =>
      cases r
      exact ⟨i, rfl, hp F' H' g⟩
    | _ => exact hp.elim⟩
def sliceM (ma : En → R Dv) (ml mh : En → R (Option Int)) : En → R Sl := fun env => (ma env).bind fun x => (ml env).bind fun lo => (mh env).bind fun hi => sliceD x lo hi
theorem sIx_two {n : Nat} {lo hi : Option Int} (h : HT.sIx n 0 lo = 0 ∧ HT.sIx n n hi = n) {l : List Dv} (hl : l.length = n) : cutL l lo hi = l := by
  unfold cutL
  rw [hl, h.1, h.2, List.drop_zero, Nat.sub_zero, ← hl, List.take_length]
theorem jx_slice {lo hi : Option Expr} {ml mh : En → R (Option Int)} (ja : JB S k f a ma) (jl : JO S k f lo ml) (jh : JO S k f hi mh) : JX S k f (.Subscript a (.Slice lo hi none p2) pos) (sliceM ma ml mh) := j_pe fun X W fit tk => by
  obtain ⟨tl, pl, hl⟩ := jl X W fit tk
  obtain ⟨th, ph, hh⟩ := jh X W fit tk
  refine ⟨_, pe_slice (sl_list.or sl_tupA) pe_rd pl ph, fun F0 H0 F H σ env Q eo hp => ?_⟩
  refine ja.go fit tk eo rfl hp anti_S fun x v F1 H1 g1 r1 eo1 hp1 => hl F0 H0 F1 H1 σ env _ eo1 ?_
  cases q : ml env with
  | stuck => rw [q] at hp1; exact hp1.elim
  | err n => rw [q] at hp1; exact hp1
  | ok lo' =>
    rw [q] at hp1
    intro F2 H2 g2
    replace hp1 : Post S W σ F1 H1 (gS S) ((mh env).bind fun hi => sliceD x lo' hi) Q := hp1
    have hp2 := hp1.grow anti_S g2
    refine hh F0 H0 F2 H2 σ env _ (eo1.grow g2) ?_
    cases q2 : mh env with
    | stuck => rw [q2] at hp2; exact hp2.elim
    | err n => rw [q2] at hp2; exact hp2
    | ok hi' =>
      rw [q2] at hp2
      intro F3 H3 g3
      replace hp2 : Post S W σ F2 H2 (gS S) (sliceD x lo' hi') Q := hp2
      have hp3 := hp2.grow anti_S g3
      have r3 := (RpB.grow r1 g2).grow g3
      cases x with
      | lst l =>
        obtain ⟨q, vs, rfl, hq, rl⟩ := r3.lstAt g3.fh
        exact .inl ⟨q, vs, rfl, SqL.of hq, fun p' hp' => hp3 (.ref p') F3 _ (Grow.mine g3.fh hp') ⟨p', _, rfl, hp', Evl.fresh_back g3.fh hp', upd_same, rl.cut lo' hi'⟩⟩
      | tup l =>
        obtain ⟨q, vs, rfl, fq, hq, rl⟩ := r3.tupAt g3.fh
        refine .inr ⟨q, vs, rfl, SqT.of hq, fun hw => hp3 (.ref q) F3 H3 (Grow.refl g3.fh) ?_, fun _ p' hp' => hp3 (.ref p') _ _ (Grow.new g3.fh hp') ?_⟩
        · have z := sIx_two hw (l := l) rl.length.symm
          show Rp S F3 (.ref q) (.tup (cutL l lo' hi'))
          rw [z]
          exact .tup fq rl
        · exact Rp.tup upd_same ((rl.cut lo' hi').mono (Evl.Ex.new (Evl.fresh_back g3.fh hp')))
      | _ => exact hp3.elim
/-! ### list(range(..)) -/
theorem rgV_rp {lo hi : Int} : RpL S F (rgV lo hi) (upTo lo (hi - lo).toNat) := by
  unfold rgV upTo
  generalize List.range (hi - lo).toNat = l
  induction l with
  | nil => exact .nil
  | cons i l ih => exact .cons (.int _) ih
theorem rg_ok {lo hi : Int} (h1 : -1000000 ≤ lo) (h2 : lo ≤ 1000000) (h3 : -1000000 ≤ hi) (h4 : hi ≤ 1000000) : RgOk lo hi := ⟨by omega, by omega, by omega, by omega, by omega⟩
theorem jl_listRg1 {q : Pos} (hl : S.mg "list" = none) (hn : S.mg "range" = none) (ja : JB S k f a ma) (h : plainE a = true := by rfl) (hg : glB f.sc "range" = true := by decide +kernel) (hg2 : glB f.sc "list" = true := by decide +kernel) :
    JL S k f (.Call (.Name "list" p) [.Call (.Name "range" p2) [a] [] q] [] pos) (fun env => (ma env).bind rng1D) := j_pe fun X W fit tk =>
  ⟨_, pe_listRg fit.calm (glB_of fit hg2).1 (by rw [fit.hm]; exact hl) (prg_1 (glB_of fit hg).1 (by rw [fit.hm]; exact hn) pe_rd (star_of h [] X.env)), fun F0 H0 F H σ env Q eo hp => ja.go fit tk eo rfl hp anti_L fun y v F1 H1 g1 r1 eo1 hp1 => by
    cases y with
    | int n =>
      rw [r1.intAt]
      simp only [rng1D] at hp1
      split at hp1
      · rename_i z
        refine ⟨n, rfl, rg_ok (by omega) (by omega) z.1 z.2, fun q hq => hp1 (.ref q) F1 _ (Grow.mine eo1.g.fh hq) ⟨q, _, rfl, hq, Evl.fresh_back eo1.g.fh hq, upd_same, ?_⟩⟩
        have w := rgV_rp (S := S) (F := F1) (lo := 0) (hi := n)
        rw [Int.sub_zero] at w
        exact w
      · exact hp1.elim
    | _ => exact hp1.elim⟩
theorem jl_listRg2 {q : Pos} (hl : S.mg "list" = none) (hn : S.mg "range" = none) (ja : JB S k f a ma) (jb : JB S k f b mb) (h : plainE a = true := by rfl) (h2 : plainE b = true := by rfl) (hg : glB f.sc "range" = true := by decide +kernel) (hg2 : glB f.sc "list" = true := by decide +kernel) :
    JL S k f (.Call (.Name "list" p) [.Call (.Name "range" p2) [a, b] [] q] [] pos) (fun env => (ma env).bind fun x => (mb env).bind fun y => rng2D x y) := j_pe fun X W fit tk =>
  ⟨_, pe_listRg fit.calm (glB_of fit hg2).1 (by rw [fit.hm]; exact hl) (prg_2 (glB_of fit hg).1 (by rw [fit.hm]; exact hn) pe_rd pe_rd (star_of h [b] X.env) (star_of h2 [] X.env) (plain_any (es := [b]) (fun e he => by rw [List.mem_singleton.mp he]; exact h2) q X.env)), fun F0 H0 F H σ env Q eo hp => ja.go fit tk eo rfl hp anti_L fun y v F1 H1 g1 r1 eo1 hp1 => jb.go fit tk eo1 rfl hp1 anti_L fun z u F2 H2 g2 r2 eo2 hp2 => by
    have r1' := RpB.grow r1 g2
    unfold rng2D at hp2
    split at hp2
    · rw [r1'.intAt, r2.intAt]
      split at hp2
      · rename_i i j z
        exact ⟨i, j, rfl, rfl, rg_ok z.1 z.2.1 z.2.2.1 z.2.2.2, fun q hq => hp2 (.ref q) F2 _ (Grow.mine eo2.g.fh hq) ⟨q, _, rfl, hq, Evl.fresh_back eo2.g.fh hq, upd_same, rgV_rp⟩⟩
      · exact hp2.elim
    · exact hp2.elim⟩
/-! ### a op b op c op d -/
def chain3 (o1 o2 o3 : CmpK) (ma mb mc md : En → R Dv) : En → R Bool := fun env => (ma env).bind fun x => (mb env).bind fun y => (o1.fd x y).bind fun t => if t = true then (mc env).bind fun z => (o2.fd y z).bind fun t => if t = true then (md env).bind fun w => o3.fd z w else .ok false else .ok false
theorem jt_chain3 (o1 o2 o3 : CmpK) (ja : JB S k f a ma) (jb : JB S k f b mb) (jc : JB S k f c mc) (jd : JB S k f d md) (h : lastMarks [o1.op, o2.op, o3.op] [b, c, d] = false := by with_unfolding_all rfl) :
    JT S k f (.Compare a [o1.op, o2.op, o3.op] [b, c, d] pos) (chain3 o1 o2 o3 ma mb mc md) := fun X W fit tk pins s F0 H0 F H σ env Qt eo I hp => by
  have cmp : ∀ (o : CmpK) {x y : Dv} {v u : V} {v' u' : Value} {s : Shared} {F H : Hp} {g : Bool → R Bool}, L2.Inv X pins σ H s → L2.RelV v v' → L2.RelV u u' → EnvOk S F0 H0 F H σ env → RpB S F H v x → RpB S F H u y → PostT S W σ F H ((o.fd x y).bind g) Qt → ∀ {R : Bool → Shared → Prop}, (∀ t s' F' H', L2.Inv X pins σ H' s' → Grow F H F' H' → PostT S W σ F' H' (g t) Qt → R t s') →
      wpAny (model X.prog X.w) X.A (compareOp o.op v' u') (fun c s2 => wpAny (model X.prog X.w) X.A (truthy c) R X.xe s2) X.xe s := fun o {x y v u v' u' s F H g} I rv ru eo r1 r2 hp {R} hR => by
    refine thn (o.opR fit pins s σ H v u v' u' _ I rv ru (o.op2 X W σ F H v u x y (fun w H' => ∃ t F', w = .bl t ∧ Grow F H F' H' ∧ PostT S W σ F' H' (g t) Qt) fit eo.g.fh r1 r2 ?_)) fun c s2 ⟨w, H2, I2, rw', t, F2, e, g2, hp2⟩ => ?_
    · cases q : o.fd x y with
      | ok t => rw [q] at hp; exact fun w F' H' g' e => ⟨t, F', e, g', PostT.grow hp g'⟩
      | err n => rw [q] at hp; exact hp
      | stuck => rw [q] at hp; exact hp
    · subst e
      cases rw'
      exact wpAny_truthy_bool (hR t s2 F2 H2 I2 g2 hp2)
  refine isTrue_chain (thn (ja.goT fit tk eo rfl hp (Q' := fun v H1 => ∃ x F1, RpB S F1 H1 v x ∧ EnvOk S F0 H0 F1 H1 σ env ∧ PostT S W σ F1 H1 ((mb env).bind fun y => (o1.fd x y).bind fun t => if t = true then (mc env).bind fun z => (o2.fd y z).bind fun t => if t = true then (md env).bind fun w => o3.fd z w else .ok false else .ok false) Qt) (fun x v F1 H1 g1 r1 eo1 hp1 => ⟨x, F1, r1, eo1, hp1⟩) pins s I) fun v' s1 h1 => ?_) h
  obtain ⟨v, H1, I1, rv, x, F1, r1, eo1, hp1⟩ := h1
  refine test_link (thn (jb.goT fit tk eo1 rfl hp1 (Q' := fun u H2 => ∃ y F2, Grow F1 H1 F2 H2 ∧ RpB S F2 H2 u y ∧ EnvOk S F0 H0 F2 H2 σ env ∧ PostT S W σ F2 H2 ((o1.fd x y).bind fun t => if t = true then (mc env).bind fun z => (o2.fd y z).bind fun t => if t = true then (md env).bind fun w => o3.fd z w else .ok false else .ok false) Qt) (fun y u F2 H2 g2 r2 eo2 hp2 => ⟨y, F2, g2, r2, eo2, hp2⟩) pins s1 I1) fun u' s2 ⟨u, H2, I2, ru, y, F2, g2, r2, eo2, hp2⟩ => ?_)
  refine cmp o1 I2 rv ru eo2 (r1.grow g2) r2 hp2 fun t s3 F3 H3 I3 g3 hp3 => ?_
  cases t with
  | false => exact ⟨H3, I3, hp3 F3 H3 (Grow.refl g3.fh)⟩
  | true =>
    rw [if_pos rfl] at hp3
    refine ite_tt ?_
    have eo3 := eo2.grow g3
    have r3 := r2.grow g3
    refine test_link (thn (jc.goT fit tk eo3 rfl hp3 (Q' := fun w H4 => ∃ z F4, Grow F3 H3 F4 H4 ∧ RpB S F4 H4 w z ∧ EnvOk S F0 H0 F4 H4 σ env ∧ PostT S W σ F4 H4 ((o2.fd y z).bind fun t => if t = true then (md env).bind fun w => o3.fd z w else .ok false) Qt) (fun z w F4 H4 g4 r4 eo4 hp4 => ⟨z, F4, g4, r4, eo4, hp4⟩) pins s3 I3) fun w' s4 ⟨w, H4, I4, rw', z, F4, g4, r4, eo4, hp4⟩ => ?_)
    refine cmp o2 I4 ru rw' eo4 (r3.grow g4) r4 hp4 fun t s5 F5 H5 I5 g5 hp5 => ?_
    cases t with
    | false => exact ⟨H5, I5, hp5 F5 H5 (Grow.refl g5.fh)⟩
    | true =>
      rw [if_pos rfl] at hp5
      refine ite_tt ?_
      have eo5 := eo4.grow g5
      refine test_last (thn (jd.goT fit tk eo5 rfl hp5 (Q' := fun q H6 => ∃ d F6, Grow F5 H5 F6 H6 ∧ RpB S F6 H6 q d ∧ EnvOk S F0 H0 F6 H6 σ env ∧ PostT S W σ F6 H6 (o3.fd z d) Qt) (fun d q F6 H6 g6 r6 eo6 hp6 => ⟨d, F6, g6, r6, eo6, hp6⟩) pins s5 I5) fun q' s6 ⟨q, H6, I6, rq, d, F6, g6, r6, eo6, hp6⟩ => ?_)
      refine cmp o3 (g := fun t => .ok t) I6 rw' rq eo6 ((r4.grow g5).grow g6) r6 ?_ fun t s7 F7 H7 I7 g7 hp7 => ⟨H7, I7, hp7 F7 H7 (Grow.refl g7.fh)⟩
      have e : (o3.fd z d).bind (fun t => R.ok t) = o3.fd z d := by cases o3.fd z d <;> rfl
      rw [e]
      exact hp6
end
end Py
namespace L2
open PySem PySem.Spec PyProof.Rows
section
variable {P : Program} {w : World} {A : Around} {E : Value → Shared → Prop} {s : Shared}
abbrev set0 (w : World) : Obj := { cls := .type "set", dict := none, data := .set #[] 0 (.fresh 0 0 (!w.params.followText "set-order")) }
set_option maxRecDepth 100000 in
set_option maxHeartbeats 3200000 in
/-- set(t), t a tuple of tuples of ints (the library's own rule for a list, turned to a tuple) -/
theorem set_of_tup {l : Addr} {items : Array Value} (ks : List (Addr × List Int)) {Q : Value → Shared → Prop} (calm : A.handled = none) (ht : s.heap.IsTuple l items) (hit : items.toList = ks.map fun p => Value.ref p.1)
    (hk : ∀ p ∈ ks, IsT P w s.heap p.2 p.1) (few : ks.length < 64) (room : A.units + 3 < cLine)
    (h : ∀ (h' : Heap) (tk : Nat) L es ep t, SetTR P w h' s.heap.objs.size L es ep t → Got ks ks.length L → (∀ b o, s.heap.get? b = some o → h'.get? b = some o) → Q (.ref s.heap.objs.size) { s with heap := h', toks := tk }) :
    wpAny (model P w) A (call (.type "set") [.ref l]) Q E s := by
  have len : items.size = ks.length := by rw [← Array.length_toList, hit, List.length_map]
  obtain ⟨c, tl, hmro⟩ := F.called_set.mro
  have f1 := F.called_set.made
  have f2 := F.called_set.sub
  have f3 := F.called_set.notType
  have f4 := F.called_set.canCreate
  have f5 := F.typeCall_set_1 (.ref l)
  refine wpAny_call (codeAny_of_tree ?_)
  show wpAny _ _ (callAny (.type "set") _) _ _ _
  refine wpAny_pure ⟨Code.quiet_builtin _ (by decide +kernel), codeAny_builtin F.entry_type_call ?_⟩
  rw [Around.under_plain (weight_type_call_type "set" [.ref l] []) rfl]
  repeat (any_goals (first | assumption | wp_step))
  have free : ∀ b, s.heap.objs.size ≤ b → s.heap.get? b = none := fun b hb => by
    cases q : s.heap.get? b with
    | none => rfl
    | some o => exact absurd (Nat.lt_of_lt_of_le (Heap.lt_size q) hb) (Nat.lt_irrefl _)
  refine codeAny_mono (code_set_led1 (.ref l) (E := E) (Q₁ := fun obj s1 => obj = .ref s.heap.objs.size ∧ s1 = { s with heap := s.heap.push (set0 w) }) ⟨rfl, rfl⟩) fun r s1 hr => ?_
  cases r with
  | error e => exact hr
  | ok fl =>
    cases fl with
    | ret obj =>
      obtain ⟨rfl, rfl⟩ := hr
      have made : (s.heap.push (set0 w)).get? s.heap.objs.size = some (set0 w) := Heap.get?_push_size _ rfl
      have ty : Shared.TypeIs { s with heap := s.heap.push (set0 w) } (.ref s.heap.objs.size) "set" := ⟨_, made, rfl⟩
      have g1 := F.called_set.init.lookup
      have g2 := F.called_set.init.bind (.ref s.heap.objs.size)
      repeat (any_goals (first | assumption | wp_step))
      refine codeAny_mono (codeAny_call_builtin (R := wants (fun r s2 => r = .none ∧ ∃ h' tk L es ep t, s2 = { s with heap := h', toks := tk } ∧ SetTR P w h' s.heap.objs.size L es ep t ∧ Got ks ks.length L ∧ ∀ b o, s.heap.get? b = some o → h'.get? b = some o) E)
        F.called_set.init.plain F.entry_set_init (check_set_init_1 ty ?_)) fun r2 s2 hr2 => ?_
      · obtain ⟨ol, hol, hcl, nl, hdl⟩ := ht
        obtain ⟨ocls, odict, odata, oslots⟩ := ol
        simp only at hcl hdl
        subst hcl; subst hdl
        have there : (s.heap.push (set0 w)).get? l = some { cls := .type "tuple", dict := odict, data := .seq items nl, slots := oslots } := Heap.get?_push_of_some _ hol
        have a1 := F.sub_tuple_set
        have a2 := F.sub_tuple_frozenset
        have a3 : (Value.type "tuple" == Value.type "dict") = false := by decide
        have tup1 : (s.heap.push (set0 w)).IsTuple l items := ⟨_, there, rfl, nl, rfl⟩
        unfold Builtin.«set.__init__» noKeywords Builtin.Frozenset.updateFrom
        generalize hPI : pyIter = PI
        wp_walk
        subst hPI
        refine wpAny_pyIter_tuple tup1 ?_
        refine wpAny_bind (wpAny_runValue ?_)
        have old : l < s.heap.objs.size := Heap.lt_size hol
        have calm3 : A.in1.in1.in1.handled = none := by simp [calm]
        have apart : l ≠ (s.heap.push (set0 w)).objs.size := by
          rw [Heap.size_push]
          exact Nat.ne_of_lt (Nat.lt_succ_of_lt old)
        have out : s.heap.objs.size ∉ [(s.heap.push (set0 w)).objs.size, l] := by
          rw [Heap.size_push]
          simp only [List.mem_cons, List.mem_singleton, List.not_mem_nil, or_false, not_or]
          exact ⟨Nat.ne_of_lt (Nat.lt_succ_self _), Nat.ne_of_gt old⟩
        have at_ : ∀ (i : Nat) (v : Value), items[i]? = some v → ∃ p, ks[i]? = some p ∧ v = .ref p.1 := fun i v hv => by
          have q : items.toList[i]? = some v := by rw [Array.getElem?_toList]; exact hv
          rw [hit, List.getElem?_map] at q
          cases hq : ks[i]? with
          | none => rw [hq] at q; cases q
          | some p => rw [hq] at q; exact ⟨p, rfl, (Option.some.inj q).symm⟩
        refine set_update_tups ((Walks.tuple calm3 _ l apart items).toS) s.heap.objs.size out ks len few at_ s.heap hk (free _ (Nat.le_refl _))
          (fun b hb => free b (by rw [List.mem_singleton.mp hb, Heap.size_push]; exact Nat.le_succ _)) room (items.size - 0) 0 _ (by omega) (Nat.zero_le _)
          ⟨⟨_, Heap.get?_push_size _ rfl, rfl, rfl⟩, (tup1.at fun o e => Heap.get?_push_of_some _ e)⟩ (fun b o e => Heap.get?_push_of_some _ (Heap.get?_push_of_some _ e)) ?start ?done
        case start => exact ⟨[], #[], 0, _, setTR_fresh (Heap.get?_push_of_some _ made), Got.zero ks⟩
        case done =>
          intro s' L es ep t moved set' got' kept
          obtain ⟨h', gs, dr, tk', os'⟩ := s'
          have e1 : gs = s.gens := moved.gens
          have e2 : dr = s.drawn := moved.drawn
          have e3 : os' = s.os := moved.os
          subst e1; subst e2; subst e3
          show wpAny _ _ _ _ _ _
          refine wpAny_pure ?_
          show wpAny _ _ (ret Value.none) _ _ _
          rw [len] at got'
          exact wpAny_pure ⟨rfl, h', tk', L, es, ep, t, rfl, set', got', kept⟩
      · cases r2 with
        | error e => exact hr2
        | ok fl2 =>
          cases fl2 with
          | ret r =>
            obtain ⟨rfl, h', tk, L, es, ep, t, rfl, set', got', kept⟩ := hr2
            repeat (any_goals (first | assumption | wp_step))
            exact h _ _ _ _ _ _ set' got' kept
          | _ => exact hr2.elim
    | _ => exact hr.elim
end
end L2
namespace Py
open PySem PySem.Spec PyProof.Rows L2

/-! ### len(set(..)), whole numbers -/
def lenSetD (x : Dv) : R Dv := match x with
  | .lst l => (intsD l).bind fun ns => if ns.length < 1000 then .ok (.int (firstMet (fun i => ns.getD i 0) ns.length).length) else .stuck
  | _ => .stuck
section
variable {S : Sx} {k : Nat} {f : Fm} {W : WX} {σ : Sg} {F H F1 H1 F0 H0 : Hp} {env : En} {Q : VK} {X : Cx} {a b : Expr} {pos p p2 q : Pos} {ma mb : En → R Dv}
theorem un_lenSet (fit : Fit S k f X) {pins : List (Addr × Obj)} {s : Shared} {v : V} {u : Value} {x : Dv} (I : L2.Inv X pins σ H s) (ru : L2.RelV v u) (ex : Ext F H) (r : RpB S F H v x) (hp : Post S W σ F H (gD S) (lenSetD x) Q) {K : Value → Shared → Prop} (hK : ∀ c s', EP X pins σ Q c s' → K c s') :
    wpAny (model X.prog X.w) X.A (call (.type "set") [u]) (fun w s1 => wpAny (model X.prog X.w) X.A (call (.builtin "len") [w]) K X.xe s1) X.xe s := by
  cases x with
  | lst l =>
    simp only [lenSetD] at hp
    cases q1 : intsD l with
    | stuck => rw [q1] at hp; exact hp.elim
    | err n => exact absurd q1 (intsD_noerr l n)
    | ok ns =>
      rw [q1] at hp
      simp only [R.bind] at hp
      split at hp
      · rename_i few
        obtain ⟨t, vs, rfl, ht, rl⟩ := r.lstAt ex
        have ev := intsD_ok q1 rl
        subst ev
        cases ru
        obtain ⟨its, rv, pl, hz⟩ := I.list (SqL.of ht)
        have hl : its.toArray.size = ns.length := by rw [List.size_toArray, ← rv.length, List.length_map]
        refine call_set_list (I.ok.hd fit.calm) pl.isList (ns := ns) (by simpa using rv.ints) (by unfold scanBound; omega) fun h' tk hS hk => ?_
        rw [hl] at hS
        obtain ⟨o, es, ep, t', ho, hex, hd, _, _, _, hf, hn⟩ := hS
        have I2 : L2.Inv X pins σ H { s with heap := h', toks := tk } := I.kept fun b o e => hk b o (Heap.lt_size e) e
        have few2 := firstMet_length_le (fun i => ns.getD i 0) ns.length
        refine call_len_set ho hex hd hf (by rw [hn]; omega) (hK _ _ ⟨.int (firstMet (fun i => ns.getD i 0) ns.length).length, H, I2.tok _, ⟨_, by rw [hn]⟩, hp _ F H (Grow.refl ex) (.int _)⟩)
      · exact hp.elim
  | _ => exact hp.elim
theorem jd_lenSet (hl : S.mg "len" = none) (hn : S.mg "set" = none) (ja : JB S k f a ma) (h : plainE a = true := by rfl) (hg : glB f.sc "len" = true := by decide +kernel) (hg2 : glB f.sc "set" = true := by decide +kernel) :
    JD S k f (.Call (.Name "len" p) [.Call (.Name "set" p2) [a] [] q] [] pos) (fun env => (ma env).bind lenSetD) := ⟨fun X W fit tk pins s F0 H0 F H σ env Q eo I hp => by
  refine Call_ (ld_blt I (glB_of fit hg).1 (by rw [fit.hm]; exact hl) PySem.boot_len ?_)
  refine PyProof.Rows.callWith_builtin1 (PyProof.Rows.args_cons ?_ rfl) rfl rfl
  refine Call_ (ld_blt I (glB_of fit hg2).1 (by rw [fit.hm]; exact hn) PyProof.Rows.boot_set ?_)
  refine PyProof.Rows.callWith_type1 (PyProof.Rows.args_cons (thn ((ja.go fit tk eo rfl hp anti_D (Q' := fun v H1 => ∃ x F1, Grow F H F1 H1 ∧ RpB S F1 H1 v x ∧ EnvOk S F0 H0 F1 H1 σ env ∧ Post S W σ F1 H1 (gD S) (lenSetD x) Q) fun x v F1 H1 g1 r1 eo1 hp1 => ⟨x, F1, g1, r1, eo1, hp1⟩) pins s I) fun u s1 h1 => PyProof.Rows.args_nil ?_) (star_of h [] X.env)) (star_of h [] X.env) rfl
  obtain ⟨v, H1, I1, ru, x, F1, g1, r1, eo1, hp1⟩ := h1
  exact thn (un_lenSet fit I1 ru eo1.g.fh r1 hp1 fun c s' e => e) fun w s2 h2 => PyProof.Rows.args_nil h2⟩
end

/-! ### sorted(set(..)), tuples of whole numbers -/
def tupIs : List Dv → R (List (List Int))
  | [] => .ok []
  | .tup l :: r => (intsD l).bind fun ns => (tupIs r).bind fun q => .ok (ns :: q)
  | _ => .stuck
def insK (x : List Int) : List (List Int) → List (List Int)
  | [] => [x]
  | y :: r => if TS.code 64 x < TS.code 64 y then x :: y :: r else if x = y then y :: r else y :: insK x r
def strB : List Int → Bool
  | a :: b :: r => decide (a < b) && strB (b :: r)
  | _ => true
def okK (d : Nat) (ns : List Int) : Bool := decide (ns.length = d) && ns.all fun m => decide (0 ≤ m) && decide (m < 64)
def sortK (ks : List (List Int)) : R (List (List Int)) :=
  let r := ks.foldr insK []
  let d := match ks with | [] => 1 | x :: _ => x.length
  if ks.length < 64 ∧ 1 ≤ d ∧ ks.all (okK d) = true ∧ strB (r.map (TS.code 64)) = true ∧ ks.all (fun x => r.contains x) = true ∧ r.all (fun x => ks.contains x) = true then .ok r else .stuck
def sortSetD (x : Dv) : R (List Dv) := match x with
  | .tup l => (tupIs l).bind fun ks => (sortK ks).map fun r => r.map fun ns => Dv.tup (ns.map Dv.int)
  | _ => .stuck
theorem strB_of : ∀ {l : List Int}, strB l = true → l.Pairwise (· < ·)
  | [], _ => .nil
  | [a], _ => .cons (fun _ h => by cases h) .nil
  | a :: b :: r, h => by
    simp only [strB, Bool.and_eq_true, decide_eq_true_eq] at h
    have ih := strB_of h.2
    refine .cons (fun y hy => ?_) ih
    rcases List.mem_cons.mp hy with e | m
    · rw [e]; exact h.1
    · exact Int.lt_trans h.1 (List.rel_of_pairwise_cons ih m)
theorem sorted_one (c : List Int → Int) : ∀ (r s : List (List Int)), r.Pairwise (fun x y => c x < c y) → s.Pairwise (fun x y => c x ≤ c y) → s.Nodup → (∀ x, x ∈ r ↔ x ∈ s) → r = s
  | [], s, _, _, _, h => by
    cases s with
    | nil => rfl
    | cons y s => exact absurd ((h y).mpr List.mem_cons_self) (by simp)
  | x :: r, [], _, _, _, h => absurd ((h x).mp List.mem_cons_self) (by simp)
  | x :: r, y :: s, h1, h2, h3, h => by
    obtain ⟨n1, n2⟩ := List.nodup_cons.mp h3
    have e : x = y := by
      rcases List.mem_cons.mp ((h x).mp List.mem_cons_self) with e | m
      · exact e
      · rcases List.mem_cons.mp ((h y).mpr List.mem_cons_self) with e | m2
        · exact e.symm
        · have z1 := List.rel_of_pairwise_cons h1 m2
          have z2 := List.rel_of_pairwise_cons h2 m
          omega
    subst e
    rw [sorted_one c r s (List.Pairwise.of_cons h1) (List.Pairwise.of_cons h2) n2 fun z => ⟨fun m => ?_, fun m => ?_⟩]
    · rcases List.mem_cons.mp ((h z).mp (List.mem_cons_of_mem _ m)) with e | m'
      · have w := List.rel_of_pairwise_cons h1 m
        rw [e] at w
        omega
      · exact m'
    · rcases List.mem_cons.mp ((h z).mpr (List.mem_cons_of_mem _ m)) with e | m'
      · exact absurd (e ▸ m) n1
      · exact m'
section
variable {S : Sx} {k : Nat} {f : Fm} {W : WX} {σ : Sg} {F H F1 H1 F0 H0 : Hp} {env : En} {Q : VK} {X : Cx} {a b : Expr} {pos p p2 q : Pos} {ma mb : En → R Dv}
theorem tupIs_ok : ∀ {l : List Dv} {ns : List (List Int)} {vs : List V}, tupIs l = .ok ns → RpL S F vs l → ∃ ks : List (Addr × List Int), vs = ks.map (fun p => V.ref p.1) ∧ ks.map (·.2) = ns ∧ ∀ p ∈ ks, F p.1 = some (.tup (p.2.map V.int))
  | [], ns, vs, h, r => by
    cases h
    cases r
    exact ⟨[], rfl, rfl, fun p hp => by cases hp⟩
  | d :: l, ns, vs, h, r => by
    cases d with
    | tup t =>
      simp only [tupIs] at h
      obtain ⟨m, h1, h⟩ := R.bind_ok h
      obtain ⟨q, h2, h⟩ := R.bind_ok h
      cases h
      cases r with
      | cons r1 r2 =>
        obtain ⟨ks, e1, e2, e3⟩ := tupIs_ok h2 r2
        cases r1 with
        | @tup t' xs _ ft rt =>
          have ev := intsD_ok h1 rt
          subst ev
          refine ⟨(t', m) :: ks, by rw [e1]; rfl, by rw [List.map_cons, e2], fun p hp => ?_⟩
          rcases List.mem_cons.mp hp with e | hp
          · rw [e]; exact ft
          · exact e3 p hp
    | _ => cases h
theorem tupIs_noerr : ∀ (l : List Dv) (n : Nat), tupIs l ≠ .err n
  | [], n, h => by cases h
  | d :: l, n, h => by
    cases d with
    | tup t =>
      simp only [tupIs] at h
      cases h1 : intsD t with
      | stuck => rw [h1] at h; cases h
      | err m => exact intsD_noerr t m h1
      | ok m =>
        rw [h1] at h
        simp only [R.bind] at h
        cases h2 : tupIs l with
        | stuck => rw [h2] at h; cases h
        | err m => exact tupIs_noerr l m h2
        | ok m => rw [h2] at h; cases h
    | _ => cases h
theorem rp_tups {ks : List (Addr × List Int)} (h : ∀ p ∈ ks, F p.1 = some (.tup (p.2.map V.int))) : RpL S F (ks.map fun p => V.ref p.1) (ks.map fun p => Dv.tup (p.2.map Dv.int)) := by
  have nums : ∀ ns : List Int, RpL S F (ns.map V.int) (ns.map Dv.int) := fun ns => by
    induction ns with
    | nil => exact .nil
    | cons n r ih => exact .cons (.int n) ih
  induction ks with
  | nil => exact .nil
  | cons x r ih => exact .cons (.tup (h x List.mem_cons_self) (nums _)) (ih fun p hp => h p (List.mem_cons_of_mem _ hp))
theorem un_sortSet (fit : Fit S k f X) {pins : List (Addr × Obj)} {s : Shared} {v : V} {u : Value} {x : Dv} (I : L2.Inv X pins σ H s) (ru : L2.RelV v u) (ex : Ext F H) (r : RpB S F H v x) (hp : Post S W σ F H (gL S) (sortSetD x) Q) :
    wpAny (model X.prog X.w) X.A (call (.type "set") [u]) (fun w s1 => wpAny (model X.prog X.w) X.A (call (.builtin "sorted") [w]) (EP X pins σ Q) X.xe s1) X.xe s := by
  cases x with
  | tup l =>
    simp only [sortSetD] at hp
    cases q1 : tupIs l with
    | stuck => rw [q1] at hp; exact hp.elim
    | err n => exact absurd q1 (tupIs_noerr l n)
    | ok ns =>
      rw [q1] at hp
      replace hp : Post S W σ F H (gL S) ((sortK ns).map fun r => r.map fun ns => Dv.tup (ns.map Dv.int)) Q := hp
      unfold sortK at hp
      dsimp only at hp
      generalize hr : ns.foldr insK [] = r' at hp
      generalize hd : (match ns with | [] => 1 | x :: _ => x.length) = d at hp
      split at hp
      · rename_i hc
        obtain ⟨few, d1, okd, str, c1, c2⟩ := hc
        obtain ⟨t, vs, rfl, ft, ht, rl⟩ := r.tupAt ex
        obtain ⟨ks, e1, e2, e3⟩ := tupIs_ok q1 rl
        subst e1
        cases ru
        have hu := fit.room.units
        have lk : ks.length = ns.length := by rw [← e2, List.length_map]
        obtain ⟨its, rv, pl, hz⟩ := I.tuple (SqT.of ht)
        refine set_of_tup (P := X.prog) (w := X.w) ks (I.ok.hd fit.calm) pl (by simpa using refs_of_vals rv) (fun p hp' => I.isT (SqT.of (ex _ _ (e3 p hp')))) (by omega) (by omega) fun h' tk L es ep t' R g kept => ?_
        have hD : H s.heap.objs.size = none := I.hok.fresh (Nat.le_refl _)
        generalize hDD : s.heap.objs.size = D at hD R ⊢
        have I2 : L2.Inv X pins σ (upd H D (SetTO X.prog X.w D L)) { s with heap := h', toks := tk } := I.laid (t' := tk) kept (by rw [hDD]; exact Nat.le_refl _) (setTO_new R.t0)
        have subL : ∀ p ∈ L, p ∈ ks := fun p hp' => List.mem_of_mem_take (g.sub p hp')
        have bnd : ∀ p ∈ ks, p.2.length = d ∧ TS.Bd 64 p.2 := fun p hp' => by
          have z := List.all_eq_true.mp okd p.2 (by rw [← e2]; exact List.mem_map.mpr ⟨p, hp', rfl⟩)
          unfold okK at z
          simp only [Bool.and_eq_true, decide_eq_true_eq, List.all_eq_true] at z
          exact ⟨z.1, fun m hm => z.2 m hm⟩
        have fD : F D = none := Evl.fresh_back ex hD
        refine cr_sortedT fit.calm pins _ σ _ [V.ref D] [.ref D] Q I2 (.cons rfl .nil) ⟨D, L, d, 64, rfl, upd_same, fun p hp' => SqT.of ?_, d1, fun p hp' => bnd p (subL p hp'), fun L' p' pm nd few' pw hp' => ?_⟩
        · rw [upd_ne fun z => by have w := e3 p (subL p hp'); rw [z, fD] at w; cases w]
          exact ex _ _ (e3 p (subL p hp'))
        · have mem : ∀ y, y ∈ r' ↔ y ∈ L'.map (·.2) := fun y => by
            constructor
            · intro hy
              have z := List.all_eq_true.mp c2 y hy
              have z' : y ∈ ns := by simpa using z
              rw [← e2] at z'
              obtain ⟨p, hp1, rfl⟩ := List.mem_map.mp z'
              have w := g.all p (by rw [List.take_length]; exact hp1)
              exact (pm.map (·.2)).mem_iff.mpr w
            · intro hy
              obtain ⟨p, hp1, rfl⟩ := List.mem_map.mp ((pm.map (·.2)).mem_iff.mp hy)
              have z := List.all_eq_true.mp c1 p.2 (by rw [← e2]; exact List.mem_map.mpr ⟨p, subL p hp1, rfl⟩)
              simpa using z
          have er := sorted_one (TS.code 64) r' (L'.map (·.2)) (by
            have z := strB_of str
            rw [List.pairwise_map] at z
            exact z) (by rw [List.pairwise_map]; exact pw) nd mem
          have hpD : p' ≠ D := fun z => by rw [z, upd_same] at hp'; cases hp'
          have Hp' : H p' = none := by rw [upd_ne hpD] at hp'; exact hp'
          have fp' : F p' = none := Evl.fresh_back ex Hp'
          refine hp (.ref p') F _ ⟨Evl.Ex.refl F, fun a o e => ?_, fun a o e => ?_, fun _ _ => rfl⟩ ⟨p', _, rfl, Hp', fp', upd_same, ?_⟩
          · rw [upd_ne (fun z => by rw [z, Hp'] at e; cases e), upd_ne (fun z => by rw [z, hD] at e; cases e)]
            exact e
          · rw [upd_ne (fun z => by rw [z, fp'] at e; cases e), upd_ne (fun z => by rw [z, fD] at e; cases e)]
            exact ex _ _ e
          · show RpL S F _ (r'.map fun ns => Dv.tup (ns.map Dv.int))
            rw [er, List.map_map]
            exact rp_tups fun p hp1 => e3 p (subL p (pm.mem_iff.mp hp1))
      · exact hp.elim
  | _ => exact hp.elim
theorem jl_sortSet (hl : S.mg "sorted" = none) (hn : S.mg "set" = none) (ja : JB S k f a ma) (h : plainE a = true := by rfl) (hg : glB f.sc "sorted" = true := by decide +kernel) (hg2 : glB f.sc "set" = true := by decide +kernel) :
    JL S k f (.Call (.Name "sorted" p) [.Call (.Name "set" p2) [a] [] q] [] pos) (fun env => (ma env).bind sortSetD) := ⟨fun X W fit tk pins s F0 H0 F H σ env Q eo I hp => by
  refine Call_ (ld_blt I (glB_of fit hg).1 (by rw [fit.hm]; exact hl) boot_sorted ?_)
  refine PyProof.Rows.callWith_builtin1 (PyProof.Rows.args_cons ?_ rfl) rfl rfl
  refine Call_ (ld_blt I (glB_of fit hg2).1 (by rw [fit.hm]; exact hn) PyProof.Rows.boot_set ?_)
  refine PyProof.Rows.callWith_type1 (PyProof.Rows.args_cons (thn ((ja.go fit tk eo rfl hp anti_L (Q' := fun v H1 => ∃ x F1, Grow F H F1 H1 ∧ RpB S F1 H1 v x ∧ EnvOk S F0 H0 F1 H1 σ env ∧ Post S W σ F1 H1 (gL S) (sortSetD x) Q) fun x v F1 H1 g1 r1 eo1 hp1 => ⟨x, F1, g1, r1, eo1, hp1⟩) pins s I) fun u s1 h1 => PyProof.Rows.args_nil ?_) (star_of h [] X.env)) (star_of h [] X.env) rfl
  obtain ⟨v, H1, I1, ru, x, F1, g1, r1, eo1, hp1⟩ := h1
  exact thn (un_sortSet fit I1 ru eo1.g.fh r1 hp1) fun w s2 h2 => PyProof.Rows.args_nil h2⟩
end
end Py
namespace L2
open PySem PySem.Spec PyProof.Rows
/-! ### enumerate(tuple) (the library's own rules for a list, turned to a tuple) -/
abbrev titer (l : Addr) : Obj := { cls := .type "tuple_iterator", data := .fields #[.ref l, .int 0 0] }
theorem enumT_new (l : Addr) (items : Array Value) :
    Meets (Builtin.«enumerate.__new__» ⟨[.type "enumerate", .ref l], []⟩) (fun _ R s => s.heap.IsTuple l items ∧
      R (.ok (.ret (.ref (s.heap.push (titer l)).objs.size))) { s with heap := (s.heap.push (titer l)).push { cls := .type "enumerate", data := .fields #[.none, .bool false, .ref s.heap.objs.size, rawInt 0, .none, .none] } }) :=
  .of_wp fun prog w A R s h => by
    obtain ⟨hp, g, dr, tk, os⟩ := s
    obtain ⟨hl, h⟩ := h
    have isub := sub_enumerate
    have start : ∀ {A' : Around} {E : Value → Shared → Prop} {Q : Value → Shared → Prop}, Q (.ref hp.objs.size) ⟨hp.push (titer l), g, dr, tk, os⟩ → wpAny (model prog w) A' (pyIter (.ref l)) Q E ⟨hp, g, dr, tk, os⟩ := fun q => wpAny_pyIter_tuple hl q
    wp_walk using start
    refine wpAny_stack_any fun st => wpAny_pure ?_
    split
    · rename_i c _ _ _ _ _
      cases (c == Value.type "enumerate")
      · wp_walk using start
        exact ⟨_, rfl, h⟩
      · wp_walk using start
        exact ⟨_, rfl, h⟩
    · wp_walk using start
      exact ⟨_, rfl, h⟩
section
variable {prog : Program} {w : World} {A : Around} {E : Value → Shared → Prop} {s : Shared}
theorem call_enumT {l : Addr} {items : Array Value} {Q : Value → Shared → Prop} (hL : s.heap.IsTuple l items)
    (h : ∀ h', IsEnum h' (s.heap.objs.size + 1) s.heap.objs.size 0 .none → h'.IsTupleIter s.heap.objs.size l 0 → h'.objs.size = s.heap.objs.size + 2 → (∀ b o, s.heap.get? b = some o → h'.get? b = some o) → Q (.ref (s.heap.objs.size + 1)) { s with heap := h' }) :
    wpAny (model prog w) A (call (.type "enumerate") [.ref l]) Q E s := by
  refine callType_new F.called_enumerate (by decide) (F.typeCall_enumerate_1 _) (F.newCall_enumerate_1 _) (fun obj => F.args_object_init_2 obj _) F.entry_enumerate_new (enumT_new l items) ⟨hL, ?_⟩
  have hz : (s.heap.push (titer l)).objs.size = s.heap.objs.size + 1 := Heap.size_push ..
  show _ ∧ _
  rw [hz]
  have he : IsEnum ((s.heap.push (titer l)).push { cls := .type "enumerate", data := .fields #[.none, .bool false, .ref s.heap.objs.size, rawInt 0, .none, .none] }) (s.heap.objs.size + 1) s.heap.objs.size 0 .none := by
    have q := Heap.get?_push_size (s.heap.push (titer l)) (o := { cls := .type "enumerate", data := .fields #[.none, .bool false, .ref s.heap.objs.size, rawInt 0, .none, .none] }) rfl
    rw [hz] at q
    exact q
  exact ⟨⟨_, he, rfl⟩, h _ he ⟨_, Heap.get?_push_of_some _ (Heap.get?_push_size _ rfl), rfl, rfl⟩ (by rw [Heap.size_push, hz]) fun b o x => Heap.get?_push_of_some _ (Heap.get?_push_of_some _ x)⟩
theorem enumT_end {e it l : Addr} {i : Nat} {items : Array Value} {c : Int} {old : Value} {Q : Option Value → Shared → Prop} (calm : A.handled = none) (he : IsEnum s.heap e it c old) (hit : s.heap.IsTupleIter it l i) (hl : s.heap.IsTuple l items) (hx : items[i]? = none)
    (hQ : ∀ h', Heap.ExtBut it s.heap h' → Q none { s with heap := h' }) : wpAny (model prog w) A (pyNext (.ref e)) Q E s := by
  have ty : s.TypeIs (.ref e) "enumerate" := ⟨_, he, rfl⟩
  unfold pyNext
  refine wpAny_bind (wpAny_attempt (wpAny_callSpecial?_slot (name := Str.ofString "__next__") ty F.slot_enumerate_next (wpAny_call_entry F.slot_enumerate_next ty F.entry_enumerate_next ?_ (F.args_enumerate_next_1 _))))
  show wpAny _ _ (field (.ref e) 2 >>= _) _ _ _
  refine wpAny_bind (wpAny_field he rfl (x := .ref it) rfl ?_)
  refine wpAny_bind (wpAny_nextOf_tuple_end (A := A.in1) calm hit hl hx fun h' x kept stop => ?_)
  obtain ⟨o, ho, hc⟩ := stop
  refine wpAny_bind (wpAny_isInstance (T := "StopIteration") (b := true) ⟨o, ho, hc⟩ isSubtype_stop ?_)
  exact wpAny_pure (hQ _ kept)
end
/-- the tuple at a, its items with their places in new pairs -/
def IteT (K : PySem.W.Frag) (a : Addr) : It :=
  ⟨fun i H => ∃ (xs : List V) (x : V), SqT K H a xs ∧ xs[i]? = some x, fun i H v H' => ∃ T x, v = .ref T ∧ H T = none ∧ H' = upd H T (.tup [.int (i : Nat), x]) ∧ ∀ xs, SqT K H a xs → xs[i]? = some x, fun i H => ∃ xs : List V, SqT K H a xs ∧ xs.length ≤ i⟩
theorem turn_enumT {P : Program} {w : World} {K : PySem.W.Frag} {elts : List Expr} {kk : Nat} {tpos : Pos} (a e it : Addr) :
    Turn P w K (.Tuple elts kk tpos) (IteT K a) [e, it] e (fun i h => (∃ old, IsEnum h e it ((i : Nat) : Int) old) ∧ h.IsTupleIter it a i ∧ e ≠ it ∧ a ≠ it ∧ a ≠ e) where
  mem := by simp
  obj := fun i h st b hb => by
    obtain ⟨⟨old, he⟩, ⟨o, ho, hc, hd⟩, _⟩ := st
    have two : b = e ∨ b = it := by simpa using hb
    rcases two with z | z
    · rw [z]; exact ⟨_, he, fun v q => nomatch q⟩
    · rw [z]; exact ⟨o, ho, fun v q => by rw [hd] at q; cases q⟩
  keep := fun i h h' st k => let ⟨⟨old, he⟩, hi, hne⟩ := st; ⟨⟨old, k e (by simp) _ he⟩, hi.at fun o q => k it (by simp) o q, hne⟩
  item := by
    intro X hP hw hK hc i pins s σ H E I hf st hg
    subst hP hw hK
    obtain ⟨⟨old, he⟩, hit, hne, ai, ae⟩ := st
    obtain ⟨xs, x, hq, hx⟩ := hg
    obtain ⟨its, rv, p, hz⟩ := I.tuple hq
    obtain ⟨u, hu, ru⟩ := rv.get hx
    have hel : e < s.heap.objs.size := Heap.lt_size he
    have hil : it < s.heap.objs.size := by obtain ⟨_, q, _⟩ := hit; exact Heap.lt_size q
    have hi : i < its.toArray.size := by rw [List.size_toArray]; exact (List.getElem?_eq_some_iff.mp hu).1
    refine wpAny_pyNext_enum_itemC (Draws.tuple (prog := X.prog) (w := X.w) (A := X.A.in1) (I.ok.hd hc) it a ai its.toArray) he ⟨hit, p⟩ hi hne (by simp only [List.mem_cons, List.mem_singleton, List.not_mem_nil, or_false, not_or]; exact ⟨hne, Ne.symm ae⟩) fun y h' tk hy ho st' hT hsz hk => ?_
    have ey : y = u := by
      have z : its[i]? = some y := by simpa using hy
      rw [hu] at z
      exact (Option.some.inj z).symm
    subst ey
    refine ⟨_, rfl, wpAny_letOwnedTupleGo_enum (s := { s with heap := h', toks := tk + 1 }) ho fun h'' he' sb => ?_⟩
    have hT2 : h''.get? s.heap.objs.size = some { cls := .type "tuple", data := .seq #[.int i tk, y] } := (sb.2 _ (Nat.ne_of_gt hel)).trans hT
    have made : ObjOk X.prog X.w (upd H s.heap.objs.size (.tup [.int (i : Nat), x])) h'' s.heap.objs.size (.tup [.int (i : Nat), x]) :=
      ⟨by show 2 ≤ sizeLine; decide, [.int i tk, y], .cons ⟨_, rfl⟩ (.cons ru .nil), ⟨_, hT2, rfl, _, rfl⟩⟩
    have I1 : Inv X pins σ (upd H s.heap.objs.size (.tup [.int (i : Nat), x])) { s with heap := h'', toks := tk + 1 } :=
      I.turnedNew (ch := [e, it]) (fun b ob hb q => (sb.2 b (fun z => hb (by simp [z]))).trans (hk b ob (fun z => hb (by simp [z])) (fun z => hb (by simp [z])) q)) hf (Nat.le_refl _) made
    refine ⟨.ref s.heap.objs.size, _, I1, rfl, ⟨_, x, rfl, I.hok.fresh (Nat.le_refl _), rfl, fun ys hy => ?_⟩, ⟨⟨y, ?_⟩, st'.1.at fun o q => (sb.2 it (Ne.symm hne)).trans q, hne, ai, ae⟩, fun b hb => ?_⟩
    · rw [I.tuple_inj hy hq]
      exact hx
    · have e1 : ((i + 1 : Nat) : Int) = (i : Int) + 1 := by omega
      rw [e1]; exact he'
    · have small : b < s.heap.objs.size := by
        have two : b = e ∨ b = it := by simpa using hb
        rcases two with z | z
        · rw [z]; exact hel
        · rw [z]; exact hil
      rw [upd_ne (Nat.ne_of_lt small)]
      exact (hf b hb).1
  done := by
    intro X hP hw hK hc i pins s σ H E I hf st hg
    subst hP hw hK
    obtain ⟨⟨old, he⟩, hit, hne, ai, ae⟩ := st
    obtain ⟨xs, hq, hx⟩ := hg
    obtain ⟨its, rv, p, hz⟩ := I.tuple hq
    obtain ⟨f0, f1, f2, f3, f4, f5⟩ := hf it (by simp)
    have hl : its.length ≤ i := by rw [← rv.length]; exact hx
    exact enumT_end (I.ok.hd hc) he hit p (by simpa using hl) fun h' eb => ⟨rfl, I.turned (t' := s.toks) (fun b o hb q => eb b o hb q) f0 f1 f3 f4 f5⟩
  self := fun A i s Q E st h => let ⟨⟨_, he⟩, _⟩ := st; wpAny_pyIter_enum he h
theorem pi_enumT {X : Cx} {e : Expr} {te : TE} {p pos tpos : Pos} {elts : List Expr} {kk : Nat} (hg : Gl X "enumerate") (hm : X.mg "enumerate" = none) (ha : PE X e te) (hs : starEach [e] X.env = (false, eval e X.env) :: starEach [] X.env) :
    PI X (.Tuple elts kk tpos) (.Call (.Name "enumerate" p) [e] [] pos) (fun σ H R => te σ H fun v H1 => ∃ a xs, v = .ref a ∧ SqT X.K H1 a xs ∧ R (IteT X.K a) H1) := by
  refine ⟨fun pins s σ H R I h => ?_⟩
  refine Call_ (ld_blt I hg hm boot_enumerate (PyProof.Rows.callWith_type1 (PyProof.Rows.args_cons (thn (ha.run pins s σ H _ I h) fun u s1 ⟨v, H1, I1, r1, q1⟩ => PyProof.Rows.args_nil ?_) hs) hs rfl))
  obtain ⟨a, xs, ex, hq, q⟩ := q1
  subst ex
  cases r1
  obtain ⟨its, rv, p', hz⟩ := I1.tuple hq
  refine call_enumT p' fun h' he hit hsz hk => wpAny_pyIter_enum he ?_
  have I2 : Inv X pins σ H1 { s1 with heap := h' } := I1.kept (t' := s1.toks) hk
  have la : a < s1.heap.objs.size := by obtain ⟨_, z, _⟩ := p'; exact Heap.lt_size z
  refine ⟨s1.heap.objs.size + 1, [s1.heap.objs.size + 1, s1.heap.objs.size], _, _, H1, rfl, I2, turn_enumT a (s1.heap.objs.size + 1) s1.heap.objs.size, ⟨⟨.none, he⟩, hit, Nat.succ_ne_self _, Nat.ne_of_lt la, Nat.ne_of_lt (Nat.lt_succ_of_lt la)⟩, fun b hb => ?_, q⟩
  have two : b = s1.heap.objs.size + 1 ∨ b = s1.heap.objs.size := by simpa using hb
  have hle : s1.heap.objs.size ≤ b := by
    rcases two with z | z
    · rw [z]; exact Nat.le_add_right _ _
    · rw [z]; exact Nat.le_refl _
  exact I1.fpOk hle (I1.hok.fresh hle)
end L2
namespace Py
open PySem PySem.Spec PyProof.Rows L2
def enumL : Nat → List Dv → List Dv
  | _, [] => []
  | i, d :: r => .tup [.int (i : Int), d] :: enumL (i + 1) r
def enumD (x : Dv) : R (List Dv) := match x with
  | .tup l => if l.length ≤ lineP then .ok (enumL 0 l) else .stuck
  | _ => .stuck
theorem enumL_len : ∀ (i : Nat) (l : List Dv), (enumL i l).length = l.length
  | _, [] => rfl
  | i, d :: r => by rw [enumL, List.length_cons, enumL_len, List.length_cons]
theorem enumL_get : ∀ {i j : Nat} {l : List Dv} {d : Dv}, (enumL i l)[j]? = some d → ∃ y, l[j]? = some y ∧ d = .tup [.int ((i + j : Nat) : Int), y]
  | _, _, [], _, h => by simp [enumL] at h
  | i, 0, x :: r, d, h => by
    simp [enumL] at h
    exact ⟨x, rfl, by rw [← h]; rfl⟩
  | i, j + 1, x :: r, d, h => by
    obtain ⟨y, h1, h2⟩ := enumL_get (i := i + 1) (j := j) (l := r) (d := d) (by simpa [enumL] using h)
    exact ⟨y, by simpa using h1, by rw [h2, show i + 1 + j = i + (j + 1) by omega]⟩
section
variable {S : Sx} {k : Nat} {f : Fm} {a : Expr} {ma : En → R Dv} {pos p : Pos}
theorem jif_enum {elts : List Expr} {n : Nat} {tpos : Pos} (hn : S.mg "enumerate" = none) (ja : JD S k f a ma) (h : plainE a = true := by rfl) (hg : glB f.sc "enumerate" = true := by decide +kernel) :
    JIF S k f (.Tuple elts n tpos) (.Call (.Name "enumerate" p) [a] [] pos) (fun env => (ma env).bind enumD) := fun X W fit tk F0 H0 F H σ env Rw eo hp pins s I => by
  refine (pi_enumT (elts := elts) (kk := n) (tpos := tpos) (glB_of fit hg).1 (by rw [fit.hm]; exact hn) pe_rd (star_of h [] X.env)).run pins s σ H Rw I fun pins s I => ja X W fit tk pins s F0 H0 F H σ env _ eo I ?_
  refine PostI.post hp fun x v F1 H1 ex g1 r1 hp1 => ?_
  cases x with
  | tup l =>
    simp only [enumD] at hp1
    split at hp1
    · rename_i hz
      cases r1 with
      | @tup q vs _ hq rl =>
        refine ⟨q, vs, rfl, SqT.of (g1.fh _ _ hq), hp1 _ F1 H1 (Grow.refl g1.fh) ⟨by rw [enumL_len]; exact lineP_le hz, fun i F2 H2 e1 e2 => ⟨fun d hd => ?_, fun hl => ?_⟩⟩⟩
        · obtain ⟨y, hy, rfl⟩ := enumL_get hd
          obtain ⟨w, hw, rw'⟩ := rl.get hy
          have sq : SqT X.K H2 q vs := SqT.of (e2 _ _ (e1 _ _ hq))
          refine ⟨⟨vs, w, sq, hw⟩, fun t H' yy => ?_⟩
          obtain ⟨T, z, rfl, hT, rfl, fz⟩ := yy
          have kz := fz _ sq
          rw [hw] at kz
          cases kz
          have fT : F2 T = none := Evl.fresh_back e2 hT
          rw [Nat.zero_add]
          exact ⟨_, Grow.new e2 hT, .tup upd_same (.cons (.int _) (.cons (Rp.mono (e1.trans (Evl.Ex.new fT)) rw') .nil))⟩
        · rw [enumL_len] at hl
          exact ⟨vs, SqT.of (e2 _ _ (e1 _ _ hq)), by rw [rl.length]; exact hl⟩
    · exact hp1.elim
  | _ => exact hp1.elim
end
end Py
namespace L2
open PySem PySem.Spec PyProof.Rows
/-! ### try: .. except X: .., other clauses behind it that are never asked (the library's rule for one clause, turned) -/
def wFst (c : Value) (ts : Addr → Value → Option Addr → TS) (D : Ends) : WX := fun cls d σ H => cls = c ∧ ∀ a, H a = none → ts a cls d D σ H
section
variable {X : Cx} {x : Str} {c : Value} {body suite : List Stmt} {b0 : Stmt} {np pos pos' : Pos} {rest : List ExceptHandler} {tb : WX → TS} {ts : Addr → Value → Option Addr → TS}
theorem ps_try_fst (hs : X.stack = X.env :: X.outer) (hf : X.env.frame = some X.env.locals) (hc : Names X x c) (same : PySem.W.exmOne X.K c c = some true)
    (hb : ∀ (W : WX) (pn : List (Addr × Obj)) (xe : Value → Shared → Prop), Takes (X.tr pn xe) W → PassesOwn (model X.prog X.w) X.A X.env xe → PSs (X.tr pn xe) body (tb W))
    (hsu : ∀ (a : Addr) (oe : Obj) (cls : Value) (d : Option Addr) (pn : List (Addr × Obj)), PSs (X.suite a ((a, oe) :: pn)) (b0 :: suite) (ts a cls d)) :
    PS X (.Try body (.ExceptHandler (some (.Name x np)) none (b0 :: suite) pos' :: rest) [] [] pos) (fun D σ H => tb (wFst c ts D) D σ H) := by
  refine ⟨fun pins s σ H D I h => ?_⟩
  have ok := I.ok
  have fr : X.A.frames = some (X.env :: X.outer) := by rw [ok.frames, hs]
  refine wpAny_Try_except ?_
  have body' := hb (wFst c ts D) (X.pn ++ pins) (fun e s1 => wpAny (model X.prog X.w) X.A (noteFrame e X.env) (fun _ s2 => wpAny (model X.prog X.w) X.A (setFlight e none) (fun _ s3 => wpAny (model X.prog X.w) X.A (handleBy e X.env (.ExceptHandler (some (.Name x np)) none (b0 :: suite) pos' :: rest)) (SP X pins D) X.xe s3) X.xe s2) X.xe s1) (fun u s' xx => by
    obtain ⟨a, B, sI, pins', σ', H', cls, d, rfl, J', nb, up, sky, na, os, ag, ec, yes⟩ := xx
    have J : Inv X pins σ' H' sI := J'.ofTry ok
    rw [show X.stack = X.env :: X.outer from hs] at sky
    show wpAny (model X.prog X.w) X.A (noteFrame (.ref a) X.env) _ _ _
    refine Sky.land Zc.steady fr hf sky fun h3 fl3 up3 => ?_
    have J3 : Inv X pins σ' H' { s' with heap := h3 } := J.landed nb fl3.1 (up.trans up3) os ag
    obtain ⟨oe, vs, he, hz, hd⟩ := fl3.there
    have nofr : a ∉ frs (X.env :: X.outer) := fun hm => by
      obtain ⟨_, o', e', hnf⟩ := fl3.2.2.1.mem hm
      rw [he] at e'
      cases e'
      exact hnf _ hd
    have nL : a ≠ X.env.locals := fun z => nofr (List.mem_filterMap.mpr ⟨X.env, List.mem_cons_self, by rw [hf, z]⟩)
    have nF : a ∉ X.fs := fun hm => by
      obtain ⟨e, he, q⟩ := List.mem_filterMap.mp hm
      exact nofr (List.mem_filterMap.mpr ⟨e, List.mem_cons_of_mem _ he, q⟩)
    have S3 := J3.suite he hd na nL nF
    refine wpAny_handleBy_cons (codeAny_handlers_test ?_) (by intro q; cases q)
    have look : PySem.W.Looks (model X.prog X.w) h3 (typeOf (.ref a)) cls := fun A Q E s k q => wpAny_typeOf_ref (k _ _ he) (by rw [hz.1]; exact q)
    rw [ec] at look
    have meets := PySem.W.exm_one (M := model X.prog X.w) (J3.kIn) look same
    have named : ∀ {Q : Value → Shared → Prop} {E : Value → Shared → Prop}, Q c { s' with heap := h3 } → wpAny (model X.prog X.w) (X.A.mark (some (.ref a))) (eval (.Name x np) X.env) Q E { s' with heap := h3 } := fun {Q E} q => by
      obtain ⟨hg, hdbg, hm | ⟨hm, hv, hnn⟩⟩ := hc
      · exact ld_glob (X := X.suite a ((a, oe) :: (X.pn ++ pins))) S3 hg hm q hdbg
      · exact ld_blt (X := X.suite a ((a, oe) :: (X.pn ++ pins))) S3 hg hm hv q hnn hdbg
    refine named (meets.here ?_)
    refine codeAny_handlers_suite ?_
    refine HandSPX.lands_againZ fl3 fun h4 fl4 up4 => ?_
    have J4 : Inv X pins σ' H' { s' with heap := h4 } := J.landed nb fl4.1 ((up.trans up3).trans up4) os ag
    obtain ⟨oe4, vs4, he4, hz4, hd4⟩ := fl4.there
    refine wpAny_mono ((hsu a oe4 cls d (X.pn ++ pins)).run [] _ _ H' _ (J4.suite he4 hd4 na nL nF) (yes a na)) (fun f s6 hsp => ?_) (fun _ _ z => False.elim z)
    cases f with
    | next => obtain ⟨σ6, H6, S6, q6⟩ := hsp; exact ⟨_, _, S6.unsuite ok, q6⟩
    | brk => obtain ⟨σ6, H6, S6, q6⟩ := hsp; exact ⟨_, _, S6.unsuite ok, q6⟩
    | cont => obtain ⟨σ6, H6, S6, q6⟩ := hsp; exact ⟨_, _, S6.unsuite ok, q6⟩
    | ret u => obtain ⟨v6, σ6, H6, S6, r6, q6⟩ := hsp; exact ⟨_, _, _, S6.unsuite ok, r6, q6⟩) PassesOwn.looking
  refine wpAny_mono (body'.run [] s σ H D (I.toTry _) h) (fun f s1 hsp => ?_) (fun e s1 he => he)
  cases f with
  | next => obtain ⟨σ', H', J', q⟩ := hsp; exact wpAny_execs_nil ⟨σ', H', J'.ofTry ok, q⟩
  | brk => obtain ⟨σ', H', J', q⟩ := hsp; exact ⟨σ', H', J'.ofTry ok, q⟩
  | cont => obtain ⟨σ', H', J', q⟩ := hsp; exact ⟨σ', H', J'.ofTry ok, q⟩
  | ret u => obtain ⟨v, σ', H', J', r, q⟩ := hsp; exact ⟨v, σ', H', J'.ofTry ok, r, q⟩
end
/-! ### the call of a slot's def -/
section
variable {X : Cx} {CX : CXT} {k i : Nat} {f : Addr} {fd : FuncData} {ps : List Str} {sp : Sp} {E : St → XK} {x : Str} {p pos : Pos} {e : Expr} {es : List Expr} {t : TA}
theorem pe_callV (F : FnOk X.prog X.w X.K X.mg X.base CX k f fd ps sp) (hr : Room k X.A) (hk : PySem.W.keepIn X.K (.ref f) = true) (hb : Binds X.K fd ps []) (hx : ∀ σ, PassesAt CX X σ (E σ)) (hv : PE X (.Name x p) (tVar i)) (ha : PA X (e :: es) t)
    (he : starEach (e :: es) X.env = (false, eval e X.env) :: starEach es X.env) (hpl : (backTo pos (starEach es X.env)).any (·.1) = false) {pins : List (Addr × Obj)} {s : Shared} {σ : St} {H : Hp} {Q : VK} (I : Inv X pins σ H s) (hs : σ[i]? = some (some (.ref f)))
    (h : t σ H fun vs H1 => sp vs H1 Q (E σ)) : wpAny (model X.prog X.w) X.A (eval (.Call (.Name x p) (e :: es) [] pos) X.env) (EP X pins σ Q) X.xe s := by
  refine wpAny_Call_Name_kw (thn (hv.run pins s σ H (fun v H1 => v = .ref f ∧ H1 = H) I ⟨.ref f, hs, rfl, rfl⟩) fun u s1 h1 => ?_)
  obtain ⟨v, H1, I1, r1, e1, e2⟩ := h1
  subst e1
  subst e2
  cases r1
  refine PySem.W.callWith_K (h₀ := X.base) I.ok.mod.kin hk (thn (ha.run pos pins s1 σ _ _ I1 h) fun us s2 h2 => ?_) he hpl
  obtain ⟨vs, H2, I2, r, q⟩ := h2
  exact ⟨I2.kIn, run_fnS F hr hb (hx σ) I2 r q⟩
end
end L2
namespace Py
open PySem PySem.Spec PyProof.Rows L2
/-- the defs that may stand as values: their number, how many parameters, what they promise -/
abbrev Tbl := Nat → Option (Nat × (List Dv → R Sl))
def TblOk (S : Sc) (k : Nat) (T : Tbl) : Prop := ∀ j n m, T j = some (n, m) → ∃ a, S.ft j = some a ∧ (∀ ds, m ds ≠ .stuck → ds.length = n) ∧ FaOk S k a (spOf S n m)
section
variable {S : Sx} {k n : Nat} {f : Fm} {W : WX} {σ : Sg} {F H F1 H1 F0 H0 : Hp} {env : En} {Q : VK} {X : Cx} {e a b : Expr} {es : List Expr} {pos apos p : Pos} {D : Ends} {x : Str} {st : Stmt}
def valM (i : Nat) (T : Tbl) (ma : En → R (List Dv)) : En → R Sl := fun env => match env[i]? with
  | some (some (.val (.fn j))) => match T j with
    | some q => (ma env).bind q.2
    | none => .stuck
  | _ => .stuck
theorem jx_callV {T : Tbl} {ma : En → R (List Dv)} (i : Nat) (h : TblOk S.toSc k T) (ja : JA S k f (e :: es) ma) (hv : visA f i x = true := by decide +kernel) :
    JX S k f (.Call (.Name x p) (e :: es) [] pos) (valM i T ma) := ⟨fun X W fit tk pins s F0 H0 F H σ env Q eo I hp => by
  unfold valM at hp
  split at hp
  · rename_i j hi
    split at hp
    · rename_i q hT
      obtain ⟨n, m⟩ := q
      obtain ⟨fa, hfa, hn, fd, ps, Fn, hk, hb⟩ := h j n m hT
      obtain ⟨v, hσ, rv⟩ := eo.val hi
      cases rv with
      | @fn _ a' h' =>
        have ea : fa = a' := by
          rw [hfa] at h'
          exact Option.some.inj h'
        subst ea
        obtain ⟨t, pa, ht⟩ := ja.2 X W fit tk
        refine pe_callV (fn_at fit Fn) fit.room (by rw [fit.hK]; exact hk) (by rw [fit.hK]; exact hb) (passAt tk) (pe_v fit hv) pa (by rw [star_of (ja.1 e List.mem_cons_self)]) (plain_any (fun e' he => ja.1 e' (List.mem_cons_of_mem _ he)) pos X.env) I hσ ?_
        refine ht F0 H0 F H σ env _ eo ?_
        cases q : ma env with
        | stuck => rw [q] at hp; exact hp.elim
        | err z => rw [q] at hp; exact hp
        | ok l =>
          rw [q] at hp
          intro vs F' H' g r
          exact sp_go (hn l) g.fh r (Post.grow anti_S (show Post S W σ F H (gS S) (m l) Q from hp) g) fun c d H' w => w
    · exact hp.elim
  · exact hp.elim⟩
/-- try: .. except C: return text -/
def tryM (n : Nat) (t : Str) (m : En → Out) : En → Out := fun env => match m env with
  | .err j => if j = n then .rt (.val (.str t)) [] else .stuck
  | o => o
theorem Fit.tr {X : Cx} (fit : Fit S k f X) {pn : List (Addr × Obj)} {xe : Value → Shared → Prop} (h : PassesOwn (model X.prog X.w) X.A X.env xe) : Fit S k f (X.tr pn xe) := ⟨fit.hP, fit.hw, fit.hK, fit.hm, fit.hb, fit.hN, fit.hs, fit.hf, fit.calm, fit.room, h, fit.nd⟩
/-- .. at a def's own level: the frames as cxOf has them -/
def JTop (S : Sx) (k : Nat) (f : Fm) (st : Stmt) (m : En → Out) : Prop :=
  ∀ (X : Cx) (W : WX), Fit S k f X → X.stack = X.env :: X.outer → X.env.frame = some X.env.locals → Takes X W → ∀ (F0 H0 F H : Hp) (σ : Sg) (env : En) (D : Ends), EnvOk S F0 H0 F H σ env → PostS S W F0 H0 F (m env) D →
    ∀ (pins : List (Addr × Obj)) (s : Shared), Inv X pins σ H s → wpAny (model X.prog X.w) X.A (exec st X.env) (SP X pins D) X.xe s
theorem jt_try {t : Str} {body : List Stmt} {m : En → Out} {np p1 p2 pos' : Pos} {j : Nat} {rest : List ExceptHandler} (hc : ClsOk S.toSc x n) (hb : JSs S k f body m) (hg : glB f.sc x = true := by decide +kernel) :
    JTop S k f (.Try body (.ExceptHandler (some (.Name x np)) none [.Return (some (.Constant (.str t) j p1)) p2] pos' :: rest) [] [] pos) (tryM n t m) := fun X W fit hs hf tk F0 H0 F H σ env D eo hp pins s I => by
  obtain ⟨C, hm, hct, _, _, _, _, same⟩ := hc
  obtain ⟨g1, g2, g3⟩ := glB_of fit hg
  refine (ps_try_fst (tb := fun W D σ H => ∀ (pn : List (Addr × Obj)) (xe : Value → Shared → Prop), Takes (X.tr pn xe) W → PassesOwn (model X.prog X.w) X.A X.env xe → rdss (X.tr pn xe) body D σ H) (ts := fun _ _ _ => tRet (tC (.str t)))
    hs hf ⟨g1, g2, .inl (by rw [fit.hm]; exact hm)⟩ (by rw [fit.hK]; exact same) (fun W pn xe tk' po => ⟨fun pins s σ H D I h => h pn xe tk' po pins s I⟩) (fun a oe cls d pn => pss_one (ps_ret pe_str))).run pins s σ H D I ?_
  intro pn xe tk' po pins s I
  refine hb (X.tr pn xe) _ (fit.tr po) tk' F0 H0 F H σ env D eo ?_ pins s I
  unfold tryM at hp
  cases q : m env with
  | err j =>
    rw [q] at hp
    dsimp only at hp
    split at hp
    · rename_i e
      subst e
      intro c d σ' F' H' g ex
      obtain ⟨C', hC', rfl, rfl⟩ := ex
      rw [hct] at hC'
      cases hC'
      exact ⟨rfl, fun a _ => hp (.str t) σ' F' H' g (fun z => absurd rfl z) (.str t)⟩
    · exact hp.elim
  | nx e => rw [q] at hp; exact hp
  | bk e => rw [q] at hp; exact hp
  | ct e => rw [q] at hp; exact hp
  | rt s e => rw [q] at hp; exact hp
  | stuck => rw [q] at hp; exact hp.elim
end
end Py
namespace Py
open PySem PySem.Spec PyProof.Rows L2

/-! ### bodies whose first statement wants the frames -/
section
variable {S : Sx} {k : Nat} {f : Fm} {st : Stmt} {sts : List Stmt}
def JSsT (S : Sx) (k : Nat) (f : Fm) (sts : List Stmt) (m : En → Out) : Prop :=
  ∀ (X : Cx) (W : WX), Fit S k f X → X.stack = X.env :: X.outer → X.env.frame = some X.env.locals → Takes X W → ∀ (F0 H0 F H : Hp) (σ : Sg) (env : En) (D : Ends), EnvOk S F0 H0 F H σ env → PostS S W F0 H0 F (m env) D →
    ∀ (pins : List (Addr × Obj)) (s : Shared), Inv X pins σ H s → wpAny (model X.prog X.w) X.A (execs sts X.env) (SP X pins D) X.xe s
theorem jsst_cons {m1 m2 : En → Out} (h1 : JTop S k f st m1) (h2 : JSs S k f sts m2) : JSsT S k f (st :: sts) (seqO m1 m2) := fun X W fit hs hf tk F0 H0 F H σ env D eo hp pins s I => by
  refine (pss_cons ps_rd pss_rd).run pins s σ H D I ?_
  refine h1 X W fit hs hf tk F0 H0 F H σ env _ eo ?_
  unfold seqO at hp
  cases q : m1 env with
  | nx e =>
    rw [q] at hp
    exact fun σ' F' H' x eo' => fun pins s I => h2 X W fit tk F0 H0 F' H' σ' e D eo' (PostS.ext hp x) pins s I
  | bk e => rw [q] at hp; exact hp
  | ct e => rw [q] at hp; exact hp
  | rt s e => rw [q] at hp; exact hp
  | err n => rw [q] at hp; exact hp
  | stuck => rw [q] at hp; exact hp
end
section
variable {S : Sc} {k : Nat} {x : Str} {st : Stmt} {N ps : List Str} {body : En → Out}
theorem fd_ofT (d : DefOk S x st ps) (sc : FnScope N ps (defScope st)) (hb : JSsT (S.at none) k (fmOf N st) (defBody st) body) : FdOk S (k + 1) x ps.length (funM ps.length (N.length - ps.length) body) := by
  obtain ⟨f, fd, F, hm, hbi⟩ := d
  refine ⟨fun ds h => ?_, f, hm, fd, ps, F.okX sc (fun vs H Q E h => ?_) (fun cdv A outer s H vs Q E hr h => ?_), F.kp, hbi⟩
  · unfold funM at h
    split at h
    · assumption
    · exact absurd rfl h
  · obtain ⟨F', ds, _, hl, r, _⟩ := h
    rw [r.length, hl]
  · obtain ⟨F', ds, ex, hl, r, h⟩ := h
    refine ⟨_, pss_rd, fun pins s1 I => ?_⟩
    unfold funM at h
    rw [if_pos hl] at h
    refine hb (cxOf (CX S.P S.w) S.P S.w S.K S.mg S.base N x (defScope st) f cdv A outer s H E) (fun cls d _ H => E cls d H) ⟨rfl, rfl, rfl, rfl, rfl, rfl, rfl, rfl, rfl, hr, passes_of rfl, sc.nd⟩ rfl rfl (takes_of rfl rfl rfl rfl) F' H F' H (L2.start N vs) _ _ (start_env ex r) ?_ pins s1 I
    rw [hl]
    have gr : ∀ {F2 H2 : Hp}, GrowX (S.at none) F' H F2 H2 → Grow F' H F2 H2 := fun {F2 H2} g => ⟨g.ff, fun a o h => g.hh a o (by intro z; cases z) h, g.fh, g.fz⟩
    cases q : body (ds.map (fun d => some (.val d)) ++ List.replicate (N.length - ps.length) none) with
    | nx e => rw [q] at h; exact fun σ' F2 H2 x2 e2 => h .non F2 H2 (gr e2.g) .non
    | rt s' e => rw [q] at h; exact fun v σ' F2 H2 g _ gd => h v F2 H2 (gr g) gd
    | err n => rw [q] at h; exact fun c d σ' F2 H2 g ex => h c d F2 H2 (gr g) ex
    | bk e => rw [q] at h; exact h.elim
    | ct e => rw [q] at h; exact h.elim
    | stuck => rw [q] at h; exact h.elim

/-! ### the two defs that see the script -/
def bigM : Int := 2147483647
def spState (S : Sc) : Sp := fun vs H Q _ => ∃ (a : Addr) (ns : List Int), vs = [.ref a] ∧ SqL S.K H a (ns.map V.int) ∧
  ∀ (p : Addr) (A B : Int) (H' : Hp), Ext H H' → H p = none → H' p = some (.lst [.int A, .int B]) → 0 ≤ A → 0 ≤ B → B < bigM → Q (.ref p) H'
def spLaw (S : Sc) : Sp := fun vs H Q _ => ∃ (a : Addr) (ns : List Int), vs = [.ref a] ∧ SqL S.K H a (ns.map V.int) ∧ ∀ H', Q (.bl true) H'
def SdOk (S : Sc) (k : Nat) : Prop := ∃ f, S.mg "_law_state" = some (.ref f) ∧ FaOk S k f (spState S)
/-- returned: true -/
def isT : Out → Bool
  | .rt (.val (.bl true)) _ => true
  | _ => false
def env1 (n : Nat) (A B : Int) : En := (List.replicate n none).set 1 (some (.st A B))
theorem law_of {f : Addr} {fd : FuncData} {y z : Str} {p1 p2 p3 p4 p5 : Pos} {rest : List Stmt} {m : En → Out} (F : Fun S.K x x st f fd) (sc : FnScope N ["script"] (defScope st)) (ss : SdOk S k)
    (hb : defBody st = .Assign [.Name y p1] (.Call (.Name "_law_state" p2) [.Name z p3] [] p4) p5 :: rest) (hy : locA (fmOf N st) 1 y = true) (hz : visA (fmOf N st) 0 z = true) (hg : glB (defScope st) "_law_state" = true)
    (h2 : ∀ p, JSs (S.at (some p)) k (fmOf N st) rest m) (hm : ∀ A B, 0 ≤ A → 0 ≤ B → B < bigM → isT (m (env1 N.length A B)) = true) : FnOk S.P S.w S.K S.mg S.base (CX S.P S.w) (k + 1) f fd ["script"] (spLaw S) := by
  obtain ⟨fs, hms, fds, pss, Fs, hks, hbs⟩ := ss
  refine F.okX sc (fun vs H Q E h => ?_) (fun cdv A outer s H vs Q E hr h => ?_)
  · obtain ⟨a, ns, rfl, _⟩ := h
    rfl
  · obtain ⟨a, ns, rfl, hS, q⟩ := h
    let X := cxOf (CX S.P S.w) S.P S.w S.K S.mg S.base N x (defScope st) f cdv A outer s H E
    have fit : ∀ o, Fit (S.at o) k (fmOf N st) X := fun o => ⟨rfl, rfl, rfl, rfl, rfl, rfl, rfl, rfl, rfl, hr, passes_of rfl, sc.nd⟩
    have tk : Takes X (fun cls d _ H => E cls d H) := takes_of rfl rfl rfl rfl
    obtain ⟨k1, k2, k3, k4⟩ := locX (fit none) hy
    obtain ⟨g1, g2, _⟩ := glB_of (fit none) hg
    rw [hb]
    refine ⟨_, pss_cons (ps_set k1 k2 k3 (pe_callS Fs hr g1 hms hks hbs (passAt tk) (pa_cons (pe_v (fit none) hz) pa_nil) g2) (by rfl) k4) pss_rd, ?_⟩
    have len : 2 ≤ N.length := by
      have w := (List.getElem?_eq_some_iff.mp k2).1
      exact w
    refine ⟨.ref a, ?_, a, ns, rfl, hS, fun p A B H' e hp hp' a0 b0 b1 pins s I => ?_⟩
    · unfold L2.start
      rfl
    · have eo : EnvOk (S.at (some p)) (fun _ => none) H' (fun _ => none) H' ((L2.start N [V.ref a]).set 1 (some (.ref p))) (env1 N.length A B) := by
        refine ⟨⟨Evl.Ex.refl _, fun a o _ h => h, fun a h => h, (fun a o h => by cases h), fun _ _ => rfl⟩, ?_, fun i => ?_, fun i j l m p' h1 h2 h3 h4 _ _ => ?_⟩
        · unfold env1 L2.start
          rw [List.length_set, List.length_set, List.length_replicate, List.length_append, List.length_map, List.length_replicate]
          simp only [List.length_cons, List.length_nil]
          omega
        · by_cases hi : 1 = i
          · subst hi
            unfold env1
            rw [List.getElem?_set_self (l := List.replicate N.length none) (by rw [List.length_replicate]; omega), List.getElem?_set_self (l := L2.start N [V.ref a]) (by unfold L2.start; rw [List.length_append, List.length_map, List.length_replicate]; simp only [List.length_cons, List.length_nil]; omega)]
            exact ⟨p, rfl, rfl, (by rw [hp']; intro z; cases z), rfl, hp'⟩
          · unfold env1
            rw [List.getElem?_set_ne (l := List.replicate N.length none) hi]
            cases w : (List.replicate N.length (none : Option Sl))[i]? with
            | none => cases ((L2.start N [V.ref a]).set 1 (some (.ref p)))[i]?.getD none <;> trivial
            | some y =>
              have z := List.mem_of_getElem? w
              rw [List.mem_replicate] at z
              rw [z.2]
              cases ((L2.start N [V.ref a]).set 1 (some (.ref p)))[i]?.getD none <;> trivial
        · have one : ∀ {i : Nat} {l : Sl}, (env1 N.length A B)[i]? = some (some l) → i = 1 := fun {i l} h => by
            unfold env1 at h
            rcases En.set_at h with ⟨e, _⟩ | ⟨_, h⟩
            · exact e.symm
            · have z := List.mem_of_getElem? h
              rw [List.mem_replicate] at z
              cases z.2
          rw [one h3, one h4]
      refine h2 p X (fun cls d _ H => E cls d H) (fit (some p)) tk (fun _ => none) H' (fun _ => none) H' _ _ _ eo ?_ pins s I
      have ht := hm A B a0 b0 b1
      unfold isT at ht
      split at ht
      · rename_i e he
        rw [he]
        intro v σ' F2 H2 _ _ gd
        cases gd with
        | bl b => exact q H2
      · cases ht
end
end Py
namespace Py
open PySem PySem.Spec PyProof.Rows L2
abbrev sI (i : Int) : Option Sl := some (.val (.int i))
section
variable {S : Sc} {k : Nat} {st : Stmt} {N : List Str}
theorem sd_of {s4 : Stmt} {y1 y2 : Str} {r1 r2 r3 r4 r5 r6 : Pos} {c1 c2 : Nat} {tg : Expr} {body : List Stmt} {z : Str} {p1 p2 p3 p4 p5 : Pos} {c0 : Nat} {mb m4 : En → Out} {b : Dv → En → R En} {idx : List Nat} (d : DefOk S "_law_state" st ["script"]) (sc : FnScope N ["script"] (defScope st)) (hN : N.length = 4)
    (hb : defBody st = [.Assign [.Name y1 r1] (.Constant (.int 0) c1 r2) r3, .Assign [.Name y2 r4] (.Constant (.int 1) c2 r5) r6, .For tg (.Subscript (.Name z p1) (.Slice none (some (.Constant (.int 63) c0 p2)) none p3) p4) body [] p5, s4]) (hz : visA (fmOf N st) 0 z = true)
    (hy1 : locA (fmOf N st) 1 y1 = true) (hy2 : locA (fmOf N st) 2 y2 = true) (hg : JG (S.at none) k (fmOf N st) tg idx b) (hbd : JSs (S.at none) k (fmOf N st) body mb) (h4 : JS (S.at none) k (fmOf N st) s4 m4)
    (step : ∀ (a t : Int) (y : Option Sl) (c : Int), 0 ≤ a → 0 ≤ t → t < bigM → ∃ a' t' e, 0 ≤ a' ∧ 0 ≤ t' ∧ t' < bigM ∧ b (.int c) [none, sI a, sI t, y] = .ok e ∧ mb e = .nx [none, sI a', sI t', sI c])
    (fin : ∀ (a t : Int) (y : Option Sl), 0 ≤ a → 0 ≤ t → t < bigM → ∃ A B e, 0 ≤ A ∧ 0 ≤ B ∧ B < bigM ∧ m4 [none, sI a, sI t, y] = .rt (.own [.int A, .int B]) e) : SdOk S (k + 1) := by
  obtain ⟨f, fd, F, hmg, hbi⟩ := d
  refine ⟨f, hmg, fd, ["script"], F.okX sc (fun vs H Q E h => ?_) (fun cdv A outer s H vs Q E hr h => ?_), F.kp, hbi⟩
  · obtain ⟨a, ns, rfl, _⟩ := h
    rfl
  · obtain ⟨a, ns, rfl, hS, q⟩ := h
    let X := cxOf (CX S.P S.w) S.P S.w S.K S.mg S.base N "_law_state" (defScope st) f cdv A outer s H E
    have fit : Fit (S.at none) k (fmOf N st) X := ⟨rfl, rfl, rfl, rfl, rfl, rfl, rfl, rfl, rfl, hr, passes_of rfl, sc.nd⟩
    have tk : Takes X (fun cls d _ H => E cls d H) := takes_of rfl rfl rfl rfl
    have pg : PG X tg (fun v σ H Q => ∀ (pins : List (Addr × Obj)) (s : Shared) (u : Value), L2.Inv X pins σ H s → L2.RelV v u → wpAny (model X.prog X.w) X.A (assign tg X.env u) (fun _ s' => ∃ σ' H', L2.Inv X pins σ' H' s' ∧ Q σ' H') X.xe s) := ⟨fun pins s σ H v u Q I r h => h pins s u I r⟩
    rw [hb]
    obtain ⟨k1, k2, k3, k4⟩ := locX fit hy1
    obtain ⟨l1, l2, l3, l4⟩ := locX fit hy2
    refine ⟨_, pss_cons (ps_set k1 k2 k3 pe_int (by rfl) k4) (pss_cons (ps_set l1 l2 l3 pe_int (by rfl) l4) (pss_cons (ps_for fit.po fit.calm (pi_list (pe_slice sl_list (pe_v fit hz) po_none (po_some pe_int))) pg pss_rd (fun _ => rfl)) (pss_one ps_rd))), ?_⟩
    have eq0 : L2.start N [V.ref a] = [some (.ref a), none, none, none] := by
      unfold L2.start
      rw [hN]
      rfl
    rw [eq0]
    refine ⟨.ref a, rfl, 63, rfl, a, _, rfl, hS, fun p hp => ⟨p, rfl, ⟨_, SqL.of upd_same⟩, ?_⟩⟩
    obtain ⟨cs, hcs⟩ : ∃ cs : List Int, cutV (ns.map V.int) none (some 63) = cs.map V.int := by
      unfold cutV
      exact ⟨_, by rw [← List.map_drop, ← List.map_take]⟩
    rw [hcs]
    generalize hH1 : upd H p (.lst (cs.map V.int)) = H1
    have hp1 : H1 p = some (.lst (cs.map V.int)) := by rw [← hH1, upd_same]
    have ex1 : Ext H H1 := by rw [← hH1]; exact Evl.Ex.new hp
    have eo : EnvOk (S.at none) (fun _ => none) H1 (fun _ => none) H1 [some (.ref a), some (.int 0), some (.int 1), none] [none, sI 0, sI 1, none] := by
      refine ⟨⟨Evl.Ex.refl _, fun a o _ h => h, fun a h => h, (fun a o h => by cases h), fun _ _ => rfl⟩, rfl, fun i => ?_, fun i j l m p' h1 h2 h3 h4 _ _ => ?_⟩
      · match i with
        | 0 => trivial
        | 1 => exact Rp.int 0
        | 2 => exact Rp.int 1
        | 3 => trivial
        | i + 4 => trivial
      · match i, h3 with
        | 0, h3 => cases h3
        | 1, h3 => cases h3; cases h1
        | 2, h3 => cases h3; cases h1
        | 3, h3 => cases h3
        | i + 4, h3 => cases h3
    refine ⟨fun i n σ H' => n = cs.length - i ∧ i ≤ cs.length ∧ ∃ F u t y, 0 ≤ u ∧ 0 ≤ t ∧ t < bigM ∧ EnvOk (S.at none) (fun _ => none) H1 F H' σ [none, sI u, sI t, y], ⟨cs.length, by simp, Nat.zero_le _, fun _ => none, 0, 1, none, by decide, by decide, by decide, eo⟩, ?_⟩
    rintro i n σ2 H2 ⟨rfl, hi, F2, u, t, y, u0, t0, tM, e2⟩
    have hp2 : H2 p = some (.lst (cs.map V.int)) := e2.g.hh p _ (by intro z; cases z) hp1
    by_cases hlt : i < cs.length
    · right
      have gi : (cs.map V.int)[i]? = some (.int cs[i]) := by rw [List.getElem?_map, List.getElem?_eq_getElem hlt]; rfl
      refine ⟨⟨_, _, SqL.of hp2, gi⟩, fun σ' H' => ∃ F u t y, 0 ≤ u ∧ 0 ≤ t ∧ t < bigM ∧ EnvOk (S.at none) (fun _ => none) H1 F H' σ' [none, sI u, sI t, y], fun σ' H' hN => ⟨cs.length - (i + 1), by omega, rfl, hlt, hN⟩, fun x H3 yy pins s1 w I rw' => ?_⟩
      obtain ⟨rfl, yy⟩ := yy
      have ev := yy _ (SqL.of hp2)
      rw [gi] at ev
      cases ev
      obtain ⟨u', t', em, a1, a2, a3, a4, a5⟩ := step u t y cs[i] u0 t0 tM
      refine hg X fit pins s1 _ H1 F2 H3 σ2 _ em (.int cs[i]) w (.int cs[i]) _ e2 I rw' (.int _) a4 fun σ4 e4 _ _ _ pins s2 I2 => ?_
      refine hbd X (fun cls d _ H => E cls d H) fit tk _ H1 F2 H3 σ4 em _ e4 ?_ pins s2 I2
      rw [a5]
      exact fun σ' F' H' _ e5 => ⟨F', u', t', _, a1, a2, a3, e5⟩
    · left
      refine ⟨⟨_, SqL.of hp2, by rw [List.length_map]; omega⟩, fun pins s1 I => ?_⟩
      obtain ⟨A, B, e, a1, a2, a3, a4⟩ := fin u t y u0 t0 tM
      refine h4 X (fun cls d _ H => E cls d H) fit tk _ H1 F2 H2 σ2 _ _ e2 ?_ pins s1 I
      rw [a4]
      intro v σ' F' H' g _ gd
      obtain ⟨p', vs, rfl, h0, fp', hp', rl⟩ := gd
      have ev : vs = [.int A, .int B] := by
        cases rl with
        | cons r1 rl => cases rl with
          | cons r2 rl => cases rl with
            | nil => cases r1; cases r2; rfl
      subst ev
      refine q p' A B H' (ex1.trans fun a o h => g.hh a o (by intro z; cases z) h) ?_ hp' a1 a2 a3
      cases z : H p' with
      | none => rfl
      | some o => rw [ex1 _ _ z] at h0; cases h0
end
end Py
namespace Py
open PySem PySem.Spec PyProof.Rows L2

/-! ### words for mirrors -/
abbrev b1 {α β : Type} (g : α → R β) (m : En → R α) : En → R β := fun env => (m env).bind g
abbrev b2 {α β γ : Type} (g : α → β → R γ) (m : En → R α) (n : En → R β) : En → R γ := fun env => (m env).bind fun x => (n env).bind fun y => g x y
abbrev mp {α β : Type} (g : α → β) (m : En → R α) : En → R β := fun env => (m env).map g
abbrev kc {α : Type} (a : α) : En → R α := fun _ => .ok a
abbrev okN (x : Dv) : R Bool := .ok (isN x)
abbrev noN (x : Dv) : R Bool := .ok (!isN x)
abbrev ifM {α : Type} (t : En → R Bool) (a b : En → R α) : En → R α := fun env => (t env).bind fun c => if c = true then a env else b env
abbrev andV (a b : En → R Dv) : En → R Dv := fun env => (a env).bind fun x => (blD x).bind fun t => if t = true then b env else .ok (.bl false)
abbrev orV (a b : En → R Dv) : En → R Dv := fun env => (a env).bind fun x => (blD x).bind fun t => if t = true then .ok (.bl true) else b env
abbrev notV (a : En → R Dv) : En → R Dv := fun env => (a env).bind fun x => (blD x).bind fun t => .ok (.bl (!t))
abbrev tupV (m : En → R (List Dv)) : En → R Dv := fun env => (m env).bind fun l => if l.length ≤ lineP then .ok (.tup l) else .stuck
abbrev lstV (m : En → R (List Dv)) : En → R (List Dv) := fun env => (m env).bind fun l => if l.length ≤ lineP then .ok l else .stuck
abbrev nilA : En → R (List Dv) := fun _ => .ok []
abbrev setX (i : Nat) (m : En → R Sl) : En → Out := fun env => (m env).out fun s => .nx (env.set i (some s))
abbrev setD (i : Nat) (m : En → R Dv) : En → Out := fun env => (m env).out fun d => .nx (env.set i (some (.val d)))
abbrev setL (i : Nat) (m : En → R (List Dv)) : En → Out := fun env => (m env).out fun l => .nx (env.set i (some (.own l)))
abbrev setE (i : Nat) (m : En → R (Dv × En)) : En → Out := fun env => (m env).out fun p => .nx (p.2.set i (some (.val p.1)))
abbrev setC (sh : Bool) (i : Nat) (m : En → R (List Dv)) : En → Out := fun env => (m env).out fun l => .nx (env.set i (some (asL sh l)))
abbrev asgM (b : Dv → En → R En) (m : En → R Dv) : En → Out := fun env => (m env).out fun d => bindO (b d env)
abbrev par2 (i j : Nat) (m : En → R (List Dv)) : En → Out := fun env => (m env).out fun l => match l with | [u, v] => .nx ((env.set i (some (.val u))).set j (some (.val v))) | _ => .stuck
abbrev par3 (i j k : Nat) (m : En → R (List Dv)) : En → Out := fun env => (m env).out fun l => match l with | [u, v, w] => .nx (((env.set i (some (.val u))).set j (some (.val v))).set k (some (.val w))) | _ => .stuck
abbrev retX (m : En → R Sl) : En → Out := fun env => (m env).out fun s => .rt s env
abbrev retD (m : En → R Dv) : En → Out := fun env => (m env).out fun d => .rt (.val d) env
abbrev retL (m : En → R (List Dv)) : En → Out := fun env => (m env).out fun l => .rt (.own l) env
abbrev retE (m : En → R (Dv × En)) : En → Out := fun env => (m env).out fun p => .rt (.val p.1) p.2
abbrev retN : En → Out := fun env => .rt (.val .non) env
abbrev dropD (m : En → R Dv) : En → Out := fun env => (m env).out fun _ => .nx env
abbrev dropE (m : En → R (Dv × En)) : En → Out := fun env => (m env).out fun p => .nx p.2
abbrev setJ (i : Nat) (mj : En → R Dv) (m : En → R (Dv × En)) : En → Out := fun env => (m env).out fun q => if isOwn i q.2 = true then (mj q.2).out fun j => setO i j q.1 q.2 else .stuck
abbrev augV (fd : Dv → Dv → R Dv) (i : Nat) (m : En → R Dv) : En → Out := fun env => (valAt i env).out fun d => (m env).out fun y => (fd d y).out fun z => .nx (env.set i (some (.val z)))
abbrev augJ (fd : Dv → Dv → R Dv) (i : Nat) (mj m : En → R Dv) : En → Out := fun env => if isOwn i env = true then (mj env).out fun j => (getO i j env).out fun d => (m env).out fun y => (fd d y).out fun z => setO i j z env else .stuck
abbrev swpM (i : Nat) (ma mb m : En → R Dv) : En → Out := fun env => (m env).out fun d => swapO i ma mb d env
abbrev stS (i : Nat) (j : Int) (m : En → R Dv) : En → Out := fun env => (m env).out fun d => stSet i j d env
abbrev frzM (i : Nat) (m : En → Out) : En → Out := fun env => m (frz i env)
abbrev noM : En → Out := fun _ => .stuck
abbrev errM (n : Nat) : En → Out := fun _ => .err n
abbrev yesT : En → R Bool := fun _ => .ok true
abbrev yesE : En → R (Bool × En) := fun env => .ok (true, env)
section
variable {S : Sx} {k : Nat} {f : Fm} {W : WX} {σ : Sg} {F H F1 H1 F0 H0 : Hp} {env : En} {Q : VK} {X : Cx} {e a b c : Expr} {pos apos px p : Pos} {D : Ends} {x : Str} {st : Stmt} {ma mb : En → R Dv}
theorem JS.to {m m' : En → Out} (h : JS S k f st m) (q : ∀ env, m' env = m env) : JS S k f st m' := fun X W fit tk F0 H0 F H σ env D eo hp => h X W fit tk F0 H0 F H σ env D eo (by rw [← q env]; exact hp)
/-! ### x = [..], whatever x is -/
def swB (f : Fm) (scope : Scope) (y : Str) (py cpos : Pos) : Bool := (match f.sc.kind with | .function => true | _ => false) && (match f.sc.names.lookup y with | some .local => true | _ => false) && (py.line == cpos.line) && !(scope.names.any fun (n, k) => n == y && (k == .local || k == .cell))
theorem sw_val {elt : Expr} {gs : List Comprehension} {scope : Scope} {cpos py : Pos} {y : Str} {l : Nat} {env : Env} (hk : env.scope.kind = .function) : swapsWith (.ListComp elt gs scope cpos) (some (.Name y py)) l env = pure (env.scope.names.lookup y == some .local && py.line == cpos.line && !(scope.names.any fun (n, k) => n == y && (k == .local || k == .cell))) := by
  have hb : env.blockKind = .function := by unfold Env.blockKind; rw [hk]; rfl
  unfold swapsWith
  simp only [hb, Expr.pos]
  rfl
section
variable {scope : Scope} {tg iter tg1 iter1 elt : Expr} {ifs ifs1 : List Expr} {idx idx1 : List Nat} {mi mi1 : En → R (List Dv)} {b b1 : Dv → En → R En} {t t1 : En → R Bool} {m : En → R Dv} {y : Str} {py cpos : Pos}
theorem js_lc {gs : List Comprehension} {ml : En → R (List Dv)} (sh : Bool) (i : Nat) (jl : JL S k f (.ListComp elt gs scope cpos) ml) (hk : f.sc.kind = .function) (hy : locA f i y = true) (hn : (f.sc.names.lookup y == some .local && py.line == cpos.line && !(scope.names.any fun (n, k) => n == y && (k == .local || k == .cell))) = false) :
    JS S k f (.Assign [.Name y py] (.ListComp elt gs scope cpos) pos) (setC sh i ml) := js_ps fun X W fit tk => by
  obtain ⟨h1, h2, h3, h4⟩ := locX fit hy
  exact ⟨_, ps_set h1 h2 h3 pe_rd (by rw [sw_val (by rw [fit.hs]; exact hk), fit.hs, hn]) h4, fun F0 H0 F H σ env D eo hp => fun pins s I => jl X W fit tk pins s F0 H0 F H σ env _ eo I (post_lc eo hp)⟩
theorem js_comp {own : List (Str × Nat)} (sh : Bool) (i : Nat) (ji : JI S k f tg iter mi) (jg : JG S k (f.blk scope) tg idx b) (jt : JTs S k (f.blk scope) ifs t) (je : JD S k (f.blk scope) elt m)
    (hk : f.sc.kind = .function := by decide +kernel) (hy : locA f i y = true := by decide +kernel)
    (hx : inB idx own = true := by decide +kernel) (ok : blkC f.N f.sc scope own = true := by decide +kernel) (hs : ∀ env x, foldedSetIterable iter env x = pure x := by intro _ _; rfl) :
    JS S k f (.Assign [.Name y py] (.ListComp elt [⟨tg, iter, ifs, 0⟩] scope cpos) pos) (setC sh i (compM mi (own.map (·.2)) b t m)) := by
  cases q : (f.sc.names.lookup y == some .local && py.line == cpos.line && !(scope.names.any fun (n, k) => n == y && (k == .local || k == .cell))) with
  | false => exact js_lc sh i (jl_comp ji jg jt je hx ok hs) hk hy q
  | true =>
    simp only [Bool.and_eq_true, Bool.not_eq_true'] at q
    have w2 : f.sc.names.lookup y = some .local := eq_of_beq q.1.1
    obtain ⟨hN, _, _⟩ := locA_of hy
    exact js_setC sh i ji jg jt je hN (by
      unfold swC
      rw [hk, w2, q.2]
      rfl) q.1.2 hx ok hs
theorem js_comp2 {own : List (Str × Nat)} {vs1 : List Nat} (sh : Bool) (i : Nat) (ji : JI S k f tg iter mi) (jg : JG S k (f.blk scope) tg idx b) (jt : JTs S k (f.blk scope) ifs t) (ji1 : JIF S k (f.blk scope) tg1 iter1 mi1) (jg1 : JG S k (f.blk scope) tg1 idx1 b1) (jt1 : JTs S k (f.blk scope) ifs1 t1) (je : JD S k (f.blk scope) elt m)
    (hk : f.sc.kind = .function := by decide +kernel) (hy : locA f i y = true := by decide +kernel)
    (hx : inB idx own = true := by decide +kernel) (hx1 : (idx1.all fun i => vs1.contains i) = true := by decide +kernel) (hv : inB vs1 own = true := by decide +kernel) (ok : blkC f.N f.sc scope own = true := by decide +kernel) (hs : ∀ env x, foldedSetIterable iter env x = pure x := by intro _ _; rfl) (hs1 : ∀ env x, foldedSetIterable iter1 env x = pure x := by intro _ _; rfl) :
    JS S k f (.Assign [.Name y py] (.ListComp elt [⟨tg, iter, ifs, 0⟩, ⟨tg1, iter1, ifs1, 0⟩] scope cpos) pos) (setC sh i (compM2 mi (own.map (·.2)) b t mi1 vs1 b1 t1 m)) := by
  cases q : (f.sc.names.lookup y == some .local && py.line == cpos.line && !(scope.names.any fun (n, k) => n == y && (k == .local || k == .cell))) with
  | false => exact js_lc sh i (jl_comp2 ji jg jt ji1 jg1 jt1 je hx hx1 hv ok hs hs1) hk hy q
  | true =>
    simp only [Bool.and_eq_true, Bool.not_eq_true'] at q
    have w2 : f.sc.names.lookup y = some .local := eq_of_beq q.1.1
    obtain ⟨hN, _, _⟩ := locA_of hy
    exact js_setC2 sh i ji jg jt ji1 jg1 jt1 je hN (by
      unfold swC
      rw [hk, w2, q.2]
      rfl) q.1.2 hx hx1 hv ok hs hs1
end
/-! ### effects: operators, tuple(..) -/
theorem op2_share {r : Cx → R2} {fd : Dv → Dv → R Sl} (h : Op2 S k f (gS S) r fd) : Op2 S k f (gD S) r (fun x y => (fd x y).map Sl.d) := fun X W σ F H v u x y Q fit ex rx ry hp => by
  refine h X W σ F H v u x y Q fit ex rx ry ?_
  cases q : fd x y with
  | ok s =>
    simp only [q, R.map] at hp
    intro w F' H' g gd
    obtain ⟨F2, g2, gd2⟩ := gS.share g gd
    exact hp w F2 H' g2 gd2
  | err n => simp only [q, R.map] at hp; exact hp
  | stuck => simp only [q, R.map] at hp; exact hp
abbrev addE (x y : Dv) : R Dv := (addD x y).map Sl.d
abbrev mulE (x y : Dv) : R Dv := (mulD x y).map Sl.d
variable {na nb : En → R (Dv × En)}
theorem je_add (ja : JE S k f a na) (jb : JE S k f b nb) : JE S k f (.BinOp a .Add b pos) (op2E addE na nb) := je_bin (fun X _ => op_addP) (op2_share op2_add) ja jb
theorem je_mul (ja : JE S k f a na) (jb : JE S k f b nb) : JE S k f (.BinOp a .Mult b pos) (op2E mulE na nb) := je_bin (fun X _ => op_mulA) (op2_share op2_mul) ja jb
theorem je_sub (ja : JE S k f a na) (jb : JE S k f b nb) : JE S k f (.BinOp a .Sub b pos) (op2E subD na nb) := je_bin (fun X _ => op_sub) op2_sub ja jb
theorem je_mod (ja : JE S k f a na) (jb : JE S k f b nb) : JE S k f (.BinOp a .Mod b pos) (op2E modD na nb) := je_bin (fun X _ => op_modN) op2_mod ja jb
theorem je_sel (ja : JE S k f a na) (jb : JE S k f b nb) (h : PlainIx b := by exact fun _ _ => rfl) : JE S k f (.Subscript a b pos) (op2E ixD na nb) := je_ix (fun X _ => ix_P) op2_ix h ja jb
abbrev e1 (g : Dv → R Dv) (m : En → R (Dv × En)) : En → R (Dv × En) := fun env => (m env).bind fun p => (g p.1).map fun z => (z, p.2)
theorem je_callT1 {fd : Dv → R Dv} {T : String} {r : Cx → List V → Hp → VK → Prop} (hc : ∀ X, Fit S k f X → CallR X (.type T) (r X)) (hm : Un1 S k f (gD S) r fd) (hv : bootBuiltins x = some (.type T)) (hg : glB f.sc x = true) (hn : S.mg x = none) (ja : JE S k f a na) (h : plainE a = true) :
    JE S k f (.Call (.Name x p) [a] [] pos) (e1 fd na) := fun X W fit tk F0 H0 F H σ env Q eo hp pins s I =>
  (pe_callTy (hc X fit) (glB_of fit hg).1 (by rw [fit.hm]; exact hn) hv (pa1 h) (glB_of fit hg).2.2 (glB_of fit hg).2.1 (star_of h [] X.env) rfl).run pins s σ H Q I (ja.go fit tk eo rfl hp fun q v F1 H1 x1 r1 eo1 hp1 => hm X W σ F1 H1 v q.1 Q fit eo1.g.fh (.sh r1) (by
    cases z : fd q.1 with
    | ok d => rw [z] at hp1; exact fun w F' H' g rw' => hp1 w F' H' g.e (PvSub.refl _) (eo1.grow g) rw'
    | err n => rw [z] at hp1; exact fun c d F' H' g ex => hp1 c d F' H' (eo1.g.grow g) ex
    | stuck => rw [z] at hp1; exact hp1))
theorem je_tuple (hn : S.mg "tuple" = none) (ja : JE S k f a na) (h : plainE a = true := by rfl) (hg : glB f.sc "tuple" = true := by decide +kernel) : JE S k f (.Call (.Name "tuple" p) [a] [] pos) (e1 tupleD na) :=
  je_callT1 (r := fun X xs H Q => ∃ p ys, xs = [.ref p] ∧ ((SqL X.K H p ys ∧ ∀ l, H l = none → Q (.ref l) (upd H l (.tup ys))) ∨ (SqT X.K H p ys ∧ Q (.ref p) H))) (fun X _ => call_tuple_of) (fun X W σ F H v x Q fit ex rx hp => by
    cases x with
    | lst l =>
      obtain ⟨p, vs, rfl, hpp, r1⟩ := rx.lstAt ex
      exact ⟨p, vs, rfl, .inl ⟨SqL.of hpp, fun w hw => Post.newD hp ex r1 hw⟩⟩
    | tup l =>
      obtain ⟨p, vs, rfl, fp, hpp, r1⟩ := rx.tupAt ex
      exact ⟨p, vs, rfl, .inr ⟨SqT.of hpp, Post.okv hp ex (.tup fp r1)⟩⟩
    | _ => exact hp.elim) boot_tuple hg hn ja h
/-- a def as a value -/
def FnV (S : Sc) (x : Str) (n : Nat) : Prop := ∃ a, S.mg x = some (.ref a) ∧ S.ft n = some a
theorem jd_def {n : Nat} (h : FnV S.toSc x n) (hg : glB f.sc x = true := by decide +kernel) : JD S k f (.Name x pos) (kc (.fn n)) := by
  obtain ⟨a, h1, h2⟩ := h
  exact jd_fn hg h1 h2
def NumV (S : Sc) (x : Str) (i : Int) : Prop := ∃ t, S.mg x = some (.int i t)
theorem jd_num {i : Int} (h : NumV S.toSc x i) (hg : glB f.sc x = true := by decide +kernel) : JD S k f (.Name x pos) (kc (.int i)) := by
  obtain ⟨t, h1⟩ := h
  exact jd_mg hg h1
end
theorem fd_stuck {S : Sc} {k n : Nat} {x : Str} {st : Stmt} {ps : List Str} (d : DefOk S x st ps) : FdOk S k x n (fun _ => .stuck) := by
  obtain ⟨f, fd, F, hm, hbi⟩ := d
  exact ⟨fun ds h => absurd rfl h, f, hm, fd, ps, ⟨fun vs H Q E h => (by obtain ⟨_, _, _, _, _, h⟩ := h; exact h.elim), fun A outer s H args us vs Q E hr he hb hv h => (by obtain ⟨_, _, _, _, _, h⟩ := h; exact h.elim)⟩, F.kp, hbi⟩
theorem def_of {S : Sc} {x : Str} {st : Stmt} {ps : List Str} {f : Addr} {fd : FuncData} (F : Fun S.K x x st f fd) (hm : S.mg x = some (.ref f)) (b : Binds S.K fd ps []) : DefOk S x st ps := ⟨f, fd, F, hm, b⟩
end Py
namespace Py
open PySem PySem.Spec PyProof.Rows L2
/-! ### a, b = x, y with private lists among them -/
inductive Made (S : Sx) : Hp → Hp → List V → List Sl → Hp → Hp → Prop
  | nil {F H F' H' : Hp} : Grow F H F' H' → Made S F H [] [] F' H'
  | cons {F H F1 H1 F' H' : Hp} {v : V} {s : Sl} {vs : List V} {ss : List Sl} : Grow F H F1 H1 → gS S H F1 H1 v s → Made S F1 H1 vs ss F' H' → Made S F H (v :: vs) (s :: ss) F' H'
theorem Made.grow {S : Sx} {F H F' H' : Hp} {vs : List V} {ss : List Sl} (h : Made S F H vs ss F' H') : Grow F H F' H' := by
  induction h with
  | nil g => exact g
  | cons g _ _ ih => exact g.trans ih
section
variable {S : Sx} {k : Nat} {f : Fm} {W : WX} {σ : Sg} {F H F1 H1 F0 H0 : Hp} {env : En} {X : Cx} {e a b c : Expr} {es : List Expr} {pos : Pos} {D : Ends}
def PostM (S : Sx) (W : WX) (σ : Sg) (F H : Hp) (r : R (List Sl)) (Q : List V → Hp → Prop) : Prop := match r with
  | .ok ss => ∀ vs F' H', Made S F H vs ss F' H' → Q vs H'
  | .err x => ∀ c d F' H', Grow F H F' H' → ExcR S x c d → W c d σ H'
  | .stuck => False
def JXA (S : Sx) (k : Nat) (f : Fm) (es : List Expr) (m : En → R (List Sl)) : Prop :=
  ∀ (X : Cx) (W : WX), Fit S k f X → Takes X W → ∃ t, PA X es t ∧ ∀ (F0 H0 F H : Hp) (σ : Sg) (env : En) (Q : List V → Hp → Prop), EnvOk S F0 H0 F H σ env → PostM S W σ F H (m env) Q → t σ H Q
abbrev nilS : En → R (List Sl) := fun _ => .ok []
abbrev consS (m : En → R Sl) (n : En → R (List Sl)) : En → R (List Sl) := fun env => (m env).bind fun x => (n env).bind fun l => .ok (x :: l)
theorem jxa_nil : JXA S k f [] nilS := fun X W fit tk => ⟨_, pa_nil, fun F0 H0 F H σ env Q eo hp => hp [] F H (.nil (Grow.refl eo.g.fh))⟩
theorem jxa_cons {m : En → R Sl} {n : En → R (List Sl)} (ja : JX S k f e m) (jb : JXA S k f es n) (h : plainE e = true := by rfl) : JXA S k f (e :: es) (consS m n) := fun X W fit tk => by
  obtain ⟨t, p, ht⟩ := jb X W fit tk
  refine ⟨_, pa_cons pe_rd p (star_of h es X.env), fun F0 H0 F H σ env Q eo hp => ?_⟩
  intro pins s I
  refine ja X W fit tk pins s F0 H0 F H σ env _ eo I ?_
  unfold consS at hp
  cases q : m env with
  | stuck => rw [q] at hp; exact hp.elim
  | err z => rw [q] at hp; exact hp
  | ok x =>
    rw [q] at hp
    intro v F1 H1 g1 gd
    refine ht F0 H0 F1 H1 σ env _ (eo.grow g1) ?_
    replace hp : PostM S W σ F H ((n env).bind fun l => .ok (x :: l)) Q := hp
    cases q2 : n env with
    | stuck => rw [q2] at hp; exact hp.elim
    | err z => rw [q2] at hp; exact fun c d F' H' g ex => hp c d F' H' (g1.trans g) ex
    | ok l => rw [q2] at hp; exact fun vs F' H' md => hp (v :: vs) F' H' (.cons g1 gd md)
theorem PostM.ofS {m : R (List Sl)} {g : List Sl → Out} (eo : EnvOk S F0 H0 F H σ env) (hp : PostS S W F0 H0 F (m.out g) D) {Qa : List V → Hp → Prop}
    (h : ∀ l vs F1 H1, Made S F H vs l F1 H1 → PostS S W F0 H0 F1 (g l) D → Qa vs H1) : PostM S W σ F H m Qa := by
  cases m with
  | ok l => exact fun vs F' H' md => h l vs F' H' md (PostS.ext hp md.grow.ff)
  | err x => exact fun c d F' H' g' ex => hp c d σ F' H' (eo.g.grow g') ex
  | stuck => exact hp.elim
abbrev par2X (i j : Nat) (m : En → R (List Sl)) : En → Out := fun env => (m env).out fun l => match l with | [u, v] => .nx ((env.set i (some u)).set j (some v)) | _ => .stuck
abbrev par3X (i j k : Nat) (m : En → R (List Sl)) : En → Out := fun env => (m env).out fun l => match l with | [u, v, w] => .nx (((env.set i (some u)).set j (some v)).set k (some w)) | _ => .stuck
theorem sw_none2 {env : Env} {x y : Str} {a b : Expr} {kt k2 : Nat} {px py pt pt2 : Pos} (h : (env.scope.names.lookup x == some .local && env.scope.names.lookup y == some .local) = false) (hst : ([a, b].any fun | .Starred .. => true | _ => false) = false) : swappedStores [.Tuple [.Name x px, .Name y py] kt pt] (.Tuple [a, b] k2 pt2) env = pure none := by
  have kx : env.kindOf x = env.scope.names.lookup x := rfl
  have ky : env.kindOf y = env.scope.names.lookup y := rfl
  unfold swappedStores
  simp only [kx, ky, List.filterMap_cons, List.filterMap_nil, List.length_cons, List.length_nil]
  cases hb : (env.blockKind != ScopeKind.function) with
  | true => rfl
  | false =>
    refine (if_neg (by decide)).trans ((if_neg fun h => Bool.false_ne_true (hst.symm.trans h)).trans (if_pos ?_))
    rcases (Bool.and_eq_false_iff).mp h with q | q
    · simp only [q, Bool.false_and, Bool.false_eq_true, if_false]
      split <;> simp
    · simp only [q, Bool.false_and, Bool.false_eq_true, if_false]
      split <;> simp
theorem sw_none3 {env : Env} {x y z : Str} {a b c : Expr} {kt k2 : Nat} {px py pz pt pt2 : Pos} (h : (env.scope.names.lookup x == some .local && env.scope.names.lookup y == some .local && env.scope.names.lookup z == some .local) = false) (hst : ([a, b, c].any fun | .Starred .. => true | _ => false) = false) : swappedStores [.Tuple [.Name x px, .Name y py, .Name z pz] kt pt] (.Tuple [a, b, c] k2 pt2) env = pure none := by
  have kx : env.kindOf x = env.scope.names.lookup x := rfl
  have ky : env.kindOf y = env.scope.names.lookup y := rfl
  have kz : env.kindOf z = env.scope.names.lookup z := rfl
  unfold swappedStores
  simp only [kx, ky, kz, List.filterMap_cons, List.filterMap_nil, List.length_cons, List.length_nil]
  cases hb : (env.blockKind != ScopeKind.function) with
  | true => rfl
  | false =>
    refine (if_neg (by decide)).trans ((if_neg fun h => Bool.false_ne_true (hst.symm.trans h)).trans (if_pos ?_))
    rcases (Bool.and_eq_false_iff).mp h with q | q
    · rcases (Bool.and_eq_false_iff).mp q with q | q
      · simp only [q, Bool.false_and, Bool.false_eq_true, if_false]
        split <;> split <;> simp
      · simp only [q, Bool.false_and, Bool.false_eq_true, if_false]
        split <;> split <;> simp
    · simp only [q, Bool.false_and, Bool.false_eq_true, if_false]
      split <;> split <;> simp
theorem js_twoX {x y : Str} {kt k2 : Nat} {px py pt pt2 : Pos} {m : En → R (List Sl)} (i j : Nat) (ja : JXA S k f [a, b] m) (hi : locA f i x = true := by decide +kernel) (hj : locA f j y = true := by decide +kernel) (hk : f.sc.kind = .function := by decide +kernel) (hne : (x == y) = false := by decide +kernel) (hij : i ≠ j := by decide) (hl : (py.line == px.line) = true := by rfl)
    (hst : ([a, b].any fun | .Starred .. => true | _ => false) = false := by rfl) (h1 : [a, b].all (foldedForSure 8) = false := by with_unfolding_all rfl) (h2 : [a, b].all (constantsAlone 8) = false := by with_unfolding_all rfl) :
    JS S k f (.Assign [.Tuple [.Name x px, .Name y py] kt pt] (.Tuple [a, b] k2 pt2) pos) (par2X i j m) := js_ps fun X W fit tk => by
  obtain ⟨t, p, ht⟩ := ja X W fit tk
  obtain ⟨i1, i2, i3, i4⟩ := locX fit hi
  obtain ⟨j1, j2, j3, j4⟩ := locX fit hj
  cases q : (f.sc.names.lookup x == some .local && f.sc.names.lookup y == some .local) with
  | true =>
    have w := (Bool.and_eq_true_iff).mp q
    have l1 := eq_of_beq w.1
    have l2 := eq_of_beq w.2
    refine ⟨_, ps_par (i := i) (j := j) fit.calm i1 i2 j2 hij (by rw [fit.hs]; exact l1) (by rw [fit.hs]; exact l2) p (sw_par2 (by rw [fit.hs]; exact hk) (by rw [fit.hs]; exact l1) (by rw [fit.hs]; exact l2) hne hl hst h1 h2), fun F0 H0 F H σ env D eo hp => ?_⟩
    refine ht F0 H0 F H σ env _ eo (PostM.ofS eo hp fun l vs F1 H1 md hp1 => ?_)
    split at hp1
    · cases md with
      | cons g1 d1 md => cases md with
        | cons g2 d2 md => cases md with
          | nil g3 => exact ⟨_, _, rfl, hp1 _ F1 H1 (Evl.Ex.refl F1) (((eo.putS g1 i d1).putS g2 j d2).grow g3)⟩
    · exact hp1.elim
  | false =>
    refine ⟨_, ps_asg (pe_tup p) (pg_tup (n := 2) fit.calm (pgs_cons (pg_name i1 i2 i3 i4) (pgs_cons (pg_name j1 j2 j3 j4) pgs_nil))) (by rfl) (sw_none2 (by rw [fit.hs]; exact q) hst) (by rfl), fun F0 H0 F H σ env D eo hp => ?_⟩
    refine ht F0 H0 F H σ env _ eo (PostM.ofS eo hp fun l vs F1 H1 md hp1 => ?_)
    split at hp1
    · cases md with
      | cons g1 d1 md => cases md with
        | cons g2 d2 md => cases md with
          | nil g3 => exact ⟨(show (2 : Nat) ≤ sizeLine by decide), fun T hT => ⟨T, _, rfl, SqT.of upd_same, rfl, _, _, rfl, _, _, rfl, rfl, hp1 _ F1 _ (Evl.Ex.refl F1) ((((eo.putS g1 i d1).putS g2 j d2).grow g3).grow (Grow.mine g3.fh hT))⟩⟩
    · exact hp1.elim
theorem js_threeX {x y z : Str} {kt k2 : Nat} {px py pz pt pt2 : Pos} {m : En → R (List Sl)} (i j l : Nat) (ja : JXA S k f [a, b, c] m) (hi : locA f i x = true := by decide +kernel) (hj : locA f j y = true := by decide +kernel) (hl : locA f l z = true := by decide +kernel) (hk : f.sc.kind = .function := by decide +kernel)
    (h12 : (y == x) = false := by decide +kernel) (h13 : (z == x) = false := by decide +kernel) (h23 : (z == y) = false := by decide +kernel) (hij : i ≠ j := by decide) (hil : i ≠ l := by decide) (hjl : j ≠ l := by decide) (hl2 : (py.line == px.line) = true := by rfl) (hl3 : (pz.line == px.line) = true := by rfl)
    (hst : ([a, b, c].any fun | .Starred .. => true | _ => false) = false := by rfl) (h1 : [a, b, c].all (foldedForSure 8) = false := by with_unfolding_all rfl) (h2 : [a, b, c].all (constantsAlone 8) = false := by with_unfolding_all rfl) :
    JS S k f (.Assign [.Tuple [.Name x px, .Name y py, .Name z pz] kt pt] (.Tuple [a, b, c] k2 pt2) pos) (par3X i j l m) := js_ps fun X W fit tk => by
  obtain ⟨t, p, ht⟩ := ja X W fit tk
  obtain ⟨i1, i2, i3, i4⟩ := locX fit hi
  obtain ⟨j1, j2, j3, j4⟩ := locX fit hj
  obtain ⟨l1, l2, l3, l4⟩ := locX fit hl
  cases q : (f.sc.names.lookup x == some .local && f.sc.names.lookup y == some .local && f.sc.names.lookup z == some .local) with
  | true =>
    have w := (Bool.and_eq_true_iff).mp q
    have w2 := (Bool.and_eq_true_iff).mp w.1
    have e1 := eq_of_beq w2.1
    have e2 := eq_of_beq w2.2
    have e3 := eq_of_beq w.2
    refine ⟨_, ps_par3 (i := i) (j := j) (l := l) fit.calm i1 i2 j2 l2 hij hil hjl (by rw [fit.hs]; exact e1) (by rw [fit.hs]; exact e2) (by rw [fit.hs]; exact e3) p
      (sw_par3 (by rw [fit.hs]; exact hk) (by rw [fit.hs]; exact e1) (by rw [fit.hs]; exact e2) (by rw [fit.hs]; exact e3) h12 h13 h23 hl2 hl3 hst h1 h2), fun F0 H0 F H σ env D eo hp => ?_⟩
    refine ht F0 H0 F H σ env _ eo (PostM.ofS eo hp fun l' vs F1 H1 md hp1 => ?_)
    split at hp1
    · cases md with
      | cons g1 d1 md => cases md with
        | cons g2 d2 md => cases md with
          | cons g3 d3 md => cases md with
            | nil g4 => exact ⟨_, _, _, rfl, hp1 _ F1 H1 (Evl.Ex.refl F1) ((((eo.putS g1 i d1).putS g2 j d2).putS g3 l d3).grow g4)⟩
    · exact hp1.elim
  | false =>
    refine ⟨_, ps_asg (pe_tup p) (pg_tup (n := 3) fit.calm (pgs_cons (pg_name i1 i2 i3 i4) (pgs_cons (pg_name j1 j2 j3 j4) (pgs_cons (pg_name l1 l2 l3 l4) pgs_nil)))) (by rfl) (sw_none3 (by rw [fit.hs]; exact q) hst) (by rfl), fun F0 H0 F H σ env D eo hp => ?_⟩
    refine ht F0 H0 F H σ env _ eo (PostM.ofS eo hp fun l' vs F1 H1 md hp1 => ?_)
    split at hp1
    · cases md with
      | cons g1 d1 md => cases md with
        | cons g2 d2 md => cases md with
          | cons g3 d3 md => cases md with
            | nil g4 => exact ⟨(show (3 : Nat) ≤ sizeLine by decide), fun T hT => ⟨T, _, rfl, SqT.of upd_same, rfl, _, _, rfl, _, _, rfl, _, _, rfl, rfl, hp1 _ F1 _ (Evl.Ex.refl F1) (((((eo.putS g1 i d1).putS g2 j d2).putS g3 l d3).grow g4).grow (Grow.mine g4.fh hT))⟩⟩
    · exact hp1.elim
abbrev asgE (b : Dv → En → R En) (m : En → R (Dv × En)) : En → Out := fun env => (m env).out fun p => bindO (b p.1 p.2)
theorem js_asgE {tg : Expr} {idx : List Nat} {b : Dv → En → R En} {m : En → R (Dv × En)} (ja : JE S k f a m) (jg : JG S k f tg idx b) (hs : ∀ env, swapsWithSole [tg] a pos.line env = pure false := by intro _; rfl) (hw : ∀ env, swappedStores [tg] a env = pure none := by intro _; rfl)
    (h1 : ∀ env, (assignEach [tg] env).map (·.2) = [assign tg env] := by intro _; rfl) : JS S k f (.Assign [tg] a pos) (asgE b m) := fun X W fit tk F0 H0 F H σ env D eo hp pins s I => by
  have hg : PG X tg (fun v σ H Q => ∀ (pins : List (Addr × Obj)) (s : Shared) (u : Value), Inv X pins σ H s → RelV v u → wpAny (model X.prog X.w) X.A (assign tg X.env u) (fun _ s' => ∃ σ' H', Inv X pins σ' H' s' ∧ Q σ' H') X.xe s) := ⟨fun pins s σ H v u Q I r h => h pins s u I r⟩
  refine (ps_asg pe_rd hg (hs X.env) (hw X.env) (h1 X.env)).run pins s σ H D I (ja.goS fit tk eo hp fun d v F1 H1 x1 rv eo1 hp1 pins s u I ru => ?_)
  cases q : b d.1 d.2 with
  | ok e' =>
    rw [q] at hp1
    exact jg X fit pins s F0 H0 F1 H1 σ d.2 e' v u d.1 _ eo1 I ru rv q fun σ' e2 _ _ _ => hp1 σ' F1 H1 (Evl.Ex.refl F1) e2
  | err n => rw [q] at hp1; exact hp1.elim
  | stuck => rw [q] at hp1; exact hp1.elim
end
end Py
namespace Py
open PySem PySem.Spec PyProof.Rows L2
def StStep (b : Dv → En → R En) (mb : En → Out) : Prop := ∀ (a t : Int) (y : Option Sl) (c : Int), 0 ≤ a → 0 ≤ t → t < bigM → ∃ a' t' e, 0 ≤ a' ∧ 0 ≤ t' ∧ t' < bigM ∧ b (.int c) [none, sI a, sI t, y] = .ok e ∧ mb e = .nx [none, sI a', sI t', sI c]
def StFin (m4 : En → Out) : Prop := ∀ (a t : Int) (y : Option Sl), 0 ≤ a → 0 ≤ t → t < bigM → ∃ A B e, 0 ≤ A ∧ 0 ≤ B ∧ B < bigM ∧ m4 [none, sI a, sI t, y] = .rt (.own [.int A, .int B]) e
theorem tbl_one {S : Sc} {k n j : Nat} {x : Str} {m : List Dv → R Sl} (h : FdOk S k x n m) (v : FnV S x j) : ∃ a, S.ft j = some a ∧ (∀ ds, m ds ≠ .stuck → ds.length = n) ∧ FaOk S k a (spOf S n m) := by
  obtain ⟨hn, f, hm, h⟩ := h
  obtain ⟨a, ha, hf⟩ := v
  rw [hm] at ha
  cases ha
  exact ⟨f, hf, hn, h⟩

abbrev isi2D (t u : TyK) (x : Dv) : R Bool := (isiD t x).bind fun b => (isiD u x).bind fun c => .ok (b || c)
section
variable {S : Sc} {x : Str} {st : Stmt} {N ps : List Str} {body : En → Out}
theorem fd_mk (k n z : Nat) (body : En → Out) (d : DefOk S x st ps) (sc : FnScope N ps (defScope st)) (hn : ps.length = n) (hz : N.length - ps.length = z) (hb : JSs (S.at none) k (fmOf N st) (defBody st) body) : FdOk S (k + 1) x n (funM n z body) := by
  subst hn
  subst hz
  exact fd_of d sc hb
theorem fd_mkT (k n z : Nat) (body : En → Out) (d : DefOk S x st ps) (sc : FnScope N ps (defScope st)) (hn : ps.length = n) (hz : N.length - ps.length = z) (hb : JSsT (S.at none) k (fmOf N st) (defBody st) body) : FdOk S (k + 1) x n (funM n z body) := by
  subst hn
  subst hz
  exact fd_ofT d sc hb
theorem ft_mk {q : Str} (k n z : Nat) (body : En → Out) (d : DefOk S x st (q :: ps)) (sc : FnScope N (q :: ps) (defScope st)) (hn : ps.length = n) (hz : N.length - (ps.length + 1) = z) (hb : ∀ p, JSs (S.at (some p)) k (fmOf N st) (defBody st) body) : FtOk S (k + 1) x n (funT n z body) := by
  subst hn
  subst hz
  exact ft_of d sc hb
end
abbrev spLawK (K : PySem.W.Frag) : Sp := fun vs H Q _ => ∃ (a : Addr) (ns : List Int), vs = [.ref a] ∧ SqL K H a (ns.map V.int) ∧ ∀ H', Q (.bl true) H'
theorem cx_no {P : Program} {w : World} {outer : List Env} {H : Hp} {s : Shared} {e : Value} {s' : Shared} (h : CX P w outer H s (fun _ _ _ => False) e s') : False := by
  obtain ⟨_, _, _, _, _, _, _, _, _, _, _, _, z⟩ := h
  exact z
/-- a class meets its own except clause -/
theorem own_clause {K : PySem.W.Frag} {C : Addr} (sub : PySem.W.subIn K (.ref C) (.type "BaseException") = some true) (cls : PySem.W.isClsIn K C = true) (ty : PySem.W.typeIn K (.ref C) = some (.type "type")) (self : PySem.W.subIn K (.ref C) (.ref C) = some true) : PySem.W.exmOne K (.ref C) (.ref C) = some true := by
  have cls' : (PySem.W.clsIn K C).isSome = true := cls
  unfold PySem.W.exmOne PySem.W.kitCls
  simp [sub, cls', ty, self]
end Py
namespace Py
open PySem PySem.Spec PyProof.Rows L2
/-! ### sorted(list of tuples of whole numbers, all of one length) -/
theorem perm_lift {α β : Type} {f : α → β} : ∀ {ys zs : List β}, ys.Perm zs → ∀ ks : List α, zs = ks.map f → ∃ L : List α, L.Perm ks ∧ ys = L.map f := by
  intro ys zs p
  induction p with
  | nil =>
    intro ks h
    cases ks with
    | nil => exact ⟨[], .nil, rfl⟩
    | cons k ks => cases h
  | cons x _ ih =>
    intro ks h
    cases ks with
    | nil => cases h
    | cons k ks =>
      rw [List.map_cons] at h
      cases h
      obtain ⟨L, h1, h2⟩ := ih ks rfl
      exact ⟨k :: L, h1.cons k, by rw [List.map_cons, h2]⟩
  | swap x y l =>
    intro ks h
    match ks, h with
    | a :: b :: ks, h =>
      rw [List.map_cons, List.map_cons] at h
      cases h
      exact ⟨b :: a :: ks, .swap a b ks, rfl⟩
    | [_], h => cases h
    | [], h => cases h
  | trans _ _ ih1 ih2 =>
    intro ks h
    obtain ⟨L, h1, h2⟩ := ih2 ks h
    obtain ⟨L', h3, h4⟩ := ih1 L h2
    exact ⟨L', h3.trans h1, h4⟩
def insD (x : List Int) : List (List Int) → List (List Int)
  | [] => [x]
  | y :: r => if TS.code 64 y < TS.code 64 x then y :: insD x r else x :: y :: r
def nextB : List (List Int) → Bool
  | x :: y :: r => (decide (TS.code 64 x < TS.code 64 y) || x == y) && nextB (y :: r)
  | _ => true
theorem nextB_of : ∀ {l : List (List Int)}, nextB l = true → l.Pairwise fun x y => TS.code 64 x < TS.code 64 y ∨ x = y
  | [], _ => .nil
  | [a], _ => .cons (fun _ h => by cases h) .nil
  | a :: b :: r, h => by
    simp only [nextB, Bool.and_eq_true, Bool.or_eq_true, decide_eq_true_eq, beq_iff_eq] at h
    have ih := nextB_of h.2
    refine .cons (fun y hy => ?_) ih
    rcases List.mem_cons.mp hy with e | m
    · rw [e]; exact h.1
    · rcases h.1 with q | q
      · rcases List.rel_of_pairwise_cons ih m with q2 | q2
        · exact .inl (Int.lt_trans q q2)
        · rw [← q2]; exact .inl q
      · rw [q]; exact List.rel_of_pairwise_cons ih m
theorem sorted_two (c : List Int → Int) : ∀ (r s : List (List Int)), r.Pairwise (fun x y => c x < c y ∨ x = y) → s.Pairwise (fun x y => c x ≤ c y) → s.Perm r → r = s
  | [], s, _, _, p => (List.Perm.eq_nil p).symm
  | x :: r, [], _, _, p => absurd p.symm.eq_nil (by simp)
  | x :: r, y :: s, h1, h2, p => by
    have e : x = y := by
      rcases List.mem_cons.mp (p.mem_iff.mp List.mem_cons_self) with e | m
      · exact e.symm
      · rcases List.mem_cons.mp (p.symm.mem_iff.mp List.mem_cons_self) with e | m2
        · exact e
        · rcases List.rel_of_pairwise_cons h1 m with q | q
          · have z2 := List.rel_of_pairwise_cons h2 m2
            omega
          · exact q
    subst e
    rw [sorted_two c r s (List.Pairwise.of_cons h1) (List.Pairwise.of_cons h2) (List.Perm.cons_inv p)]
def hdL : List (List Int) → Nat
  | [] => 1
  | x :: _ => x.length
def sortT (ks : List (List Int)) : R (List (List Int)) :=
  let r := ks.foldr insD []
  let d := hdL ks
  if ks.length < 64 ∧ 1 ≤ d ∧ ks.all (okK d) = true ∧ nextB r = true ∧ r.isPerm ks = true then .ok r else .stuck
def sortTupD (x : Dv) : R (List Dv) := match x with
  | .lst l => (tupIs l).bind fun ks => (sortT ks).map fun r => r.map fun ns => Dv.tup (ns.map Dv.int)
  | _ => .stuck
section
variable {S : Sx} {k : Nat} {f : Fm} {a : Expr} {ma : En → R Dv} {pos p : Pos}
theorem jl_sortT (d : Nat) (hd : 1 ≤ d) : Un1 S k f (gL S) (fun X => rSortU X.K d 64) (fun x => match x with
    | .lst l => (tupIs l).bind fun ks => if hdL ks = d then (sortT ks).map fun r => r.map fun ns => Dv.tup (ns.map Dv.int) else .stuck
    | _ => .stuck) := by
  intro X W σ F H v x Q fit ex rx hp
  cases x with
  | lst l =>
    simp only at hp
    cases q1 : tupIs l with
    | stuck => rw [q1] at hp; exact hp.elim
    | err n => exact absurd q1 (tupIs_noerr l n)
    | ok ns =>
      rw [q1] at hp
      simp only [R.bind] at hp
      split at hp
      · rename_i hdd
        unfold sortT at hp
        dsimp only at hp
        generalize hr : ns.foldr insD [] = r at hp
        rw [hdd] at hp
        split at hp
        · rename_i hc
          obtain ⟨few, d1, okd, nxt, perm⟩ := hc
          replace hp : Post S W σ F H (gL S) (.ok (r.map fun ns => Dv.tup (ns.map Dv.int))) Q := hp
          obtain ⟨t, vs, rfl, ht, rl⟩ := rx.lstAt ex
          obtain ⟨ks, e1, e2, e3⟩ := tupIs_ok q1 rl
          subst e1
          have bnd : ∀ q ∈ ks, q.2.length = d ∧ TS.Bd 64 q.2 := fun q hq => by
            have z := List.all_eq_true.mp okd q.2 (by rw [← e2]; exact List.mem_map.mpr ⟨q, hq, rfl⟩)
            unfold okK at z
            simp only [Bool.and_eq_true, decide_eq_true_eq, List.all_eq_true] at z
            exact ⟨z.1, fun m hm => z.2 m hm⟩
          have tupH : ∀ q ∈ ks, TupI X.K H (V.ref q.1) q.2 := fun q hq => ⟨q.1, rfl, SqT.of (ex _ _ (e3 q hq))⟩
          refine ⟨t, _, rfl, SqL.of ht, by rw [List.length_map]; have z := congrArg List.length e2; rw [List.length_map] at z; omega, fun x hx => ?_, fun ys p' pm pw hp' => ?_⟩
          · obtain ⟨q, hq, rfl⟩ := List.mem_map.mp hx
            exact ⟨q.2, tupH q hq, bnd q hq⟩
          · obtain ⟨L, hL, rfl⟩ := perm_lift pm ks rfl
            have inL : ∀ q ∈ L, q ∈ ks := fun q hq => hL.mem_iff.mp hq
            have srt : (L.map (·.2)).Pairwise fun x y => TS.code 64 x ≤ TS.code 64 y := by
              rw [List.pairwise_map]
              rw [List.pairwise_map] at pw
              refine List.Pairwise.imp_of_mem (fun {x y} hx hy h => ?_) pw
              exact h _ _ (tupH x (inL x hx)) (tupH y (inL y hy))
            have er := sorted_two (TS.code 64) r (L.map (·.2)) (nextB_of nxt) srt ((hL.map (·.2)).trans (by rw [e2]; exact (List.isPerm_iff.mp perm).symm))
            have fp : F p' = none := Evl.fresh_back ex hp'
            refine hp (.ref p') F _ (Grow.mine ex hp') ⟨p', _, rfl, hp', fp, upd_same, ?_⟩
            rw [er, List.map_map]
            exact rp_tups fun q hq => e3 q (inL q hq)
        · exact hp.elim
      · exact hp.elim
  | _ => exact hp.elim
def rSortA (X : Cx) : List V → Hp → VK → Prop := fun vs H Q => ∃ d, 1 ≤ d ∧ rSortU X.K d 64 vs H Q
theorem cr_sortA {X : Cx} : CallR X (.builtin "sorted") (rSortA X) := fun pins s σ H vs us Q I r h => by
  obtain ⟨d, hd, h⟩ := h
  exact cr_sortT hd pins s σ H vs us Q I r h
theorem un_sortA : Un1 S k f (gL S) rSortA sortTupD := by
  intro X W σ F H v x Q fit ex rx hp
  cases x with
  | lst l =>
    simp only [sortTupD] at hp
    cases q1 : tupIs l with
    | stuck => rw [q1] at hp; exact hp.elim
    | err n => exact absurd q1 (tupIs_noerr l n)
    | ok ns =>
      rw [q1] at hp
      replace hp : Post S W σ F H (gL S) ((sortT ns).map fun r => r.map fun ns => Dv.tup (ns.map Dv.int)) Q := hp
      by_cases hd : 1 ≤ hdL ns
      · refine ⟨hdL ns, hd, jl_sortT (hdL ns) hd X W σ F H v (.lst l) Q fit ex rx ?_⟩
        simp only [q1, R.bind, if_true]
        exact hp
      · unfold sortT at hp
        dsimp only at hp
        rw [if_neg fun z => hd z.2.1] at hp
        exact hp.elim
  | _ => exact hp.elim
theorem jl_sorted (hn : S.mg "sorted" = none) (ja : JB S k f a ma) (h : plainE a = true := by rfl) (hg : glB f.sc "sorted" = true := by decide +kernel) : JL S k f (.Call (.Name "sorted" p) [a] [] pos) (fun env => (ma env).bind sortTupD) :=
  j_call1 anti_L (fun X _ => cr_sortA) un_sortA boot_sorted hg hn ja h
/-! ### max, min of a list of whole numbers -/
theorem jd_max1 (hn : S.mg "max" = none) (ja : JB S k f a ma) (h : plainE a = true := by rfl) (hg : glB f.sc "max" = true := by decide +kernel) : JD S k f (.Call (.Name "max" p) [a] [] pos) (fun env => (ma env).bind fun x => match x with | .lst l => bigD (.lst l) | _ => .stuck) :=
  j_call1 anti_D (r := fun X => rMax X.K) (fun X fit => cr_max fit.calm) (fun X W σ F H v x Q fit ex rx hp => by
    cases x with
    | lst l =>
      simp only [bigD, itemsD, R.bind] at hp
      cases q2 : intsD l with
      | err n => exact absurd q2 (intsD_noerr l n)
      | stuck => rw [q2] at hp; exact hp.elim
      | ok ns =>
        rw [q2] at hp
        obtain ⟨p, vs, rfl, hpp, r1⟩ := rx.lstAt ex
        have ev := intsD_ok q2 r1
        subst ev
        cases ns with
        | nil => exact hp.elim
        | cons n r =>
          obtain ⟨m1, m2⟩ := foldl_big r n
          refine ⟨p, n :: r, rfl, SqL.of hpp, by simp, fun m hm hb => ?_⟩
          have e : m = r.foldl (fun a b => if b > a then b else a) n := by
            have z1 := m2 m hm
            have z2 := hb _ m1
            omega
          rw [e]
          exact Post.okv hp ex (.int _)
    | _ => exact hp.elim) (by decide +kernel) hg hn ja h
end
end Py
namespace L2
open PySem PySem.Spec PyProof.Rows PySem.W
/-! ### sorted(..) of tuples of whole numbers, the first of them empty: the keys are of one type, < is the tuples' own -/
/-- a tuple of these ints -/
abbrev TupN (h : Heap) (v : Value) (ns : List Int) : Prop := TS.TupInts h v ns
section
variable {M : Model} {A : Around} {E : Value → Shared → Prop} {s : Shared}
theorem tup_type {v : Value} {ns : List Int} (h : TupN s.heap v ns) : Looks M s.heap (typeOf v) (.type "tuple") := by
  obtain ⟨a, xs, rfl, ⟨o, ho, hc, n, hd⟩, i⟩ := h
  have z : Looks M s.heap (typeOf (.ref a)) o.cls := (Looks.ld ho).andThen .now
  rw [hc] at z
  exact z
theorem tup_first {v : Value} {ns : List Int} (h : TupN s.heap v ns) {Q : Option Value → Shared → Prop} (q : ∀ o : Option Value, o.isSome = !ns.isEmpty → Q o s) : wpAny M A (firstOfTuple' v) Q E s := by
  have ty : Looks M s.heap (typeOf v) (.type "tuple") := tup_type h
  obtain ⟨a, xs, rfl, ⟨o, ho, hc, n, hd⟩, i⟩ := h
  rw [kas_first_eq]
  refine wpAny_bind (ty.here ?_)
  rw [if_neg (by first | decide | simp)]
  refine wpAny_bind (listItems_at ho hd (wpAny_pure (q _ ?_)))
  have z : xs.toList.length = ns.length := i.length
  rw [Array.length_toList] at z
  cases ns with
  | nil =>
    have e0 : xs[0]? = none := Array.getElem?_eq_none (Nat.le_of_eq z)
    first | rw [e0] | simp only [e0]
    rfl
  | cons m r =>
    have e0 : xs[0]? = some (xs[0]'(by rw [z]; exact Nat.succ_pos _)) := Array.getElem?_eq_getElem _
    first | rw [e0] | simp only [e0]
    rfl
theorem tup_firsts : ∀ (vs : List Value) (k : Value → List Int) {Q : List (Option Value) → Shared → Prop}, (∀ v ∈ vs, TupN s.heap v (k v)) → (∀ os : List (Option Value), os.map Option.isSome = vs.map (fun v => !(k v).isEmpty) → Q os s) → wpAny M A (vs.mapM firstOfTuple') Q E s
  | [], _, _, _, h => by
    rw [List.mapM_nil]
    exact wpAny_pure (h [] rfl)
  | v :: vs, k, Q, t, h => by
    rw [List.mapM_cons]
    refine wpAny_bind (tup_first (t v List.mem_cons_self) fun o ho => ?_)
    refine wpAny_bind (tup_firsts vs k (fun u hu => t u (List.mem_cons_of_mem _ hu)) fun os hos => wpAny_pure (h _ ?_))
    rw [List.map_cons, List.map_cons, ho, hos]
theorem tup_kind {v0 : Value} {vs : List Value} {k : Value → List Int} {Q : SortKind → Shared → Prop} (t : ∀ v ∈ v0 :: vs, TupN s.heap v (k v)) (e : k v0 = []) (h : Q oneType' s) : wpAny M A (keyKind' (v0 :: vs).toArray) Q E s := by
  rw [keyKind'_eq, List.mapM_toArray, map_eq_pure_bind]
  refine wpAny_bind (wpAny_bind (tup_firsts (v0 :: vs) k t fun os hos => wpAny_pure ?_))
  cases os with
  | nil => simp at hos
  | cons o os =>
    rw [List.map_cons, List.map_cons, e] at hos
    have ho : o.isSome = false := (List.cons.inj hos).1
    have on : o = none := by cases o with
      | none => rfl
      | some x => cases ho
    subst on
    rw [if_neg (by simp), if_neg (by simp)]
    rw [oneTypeOnly'_eq, List.mapM_toArray, map_eq_pure_bind]
    refine wpAny_bind (wpAny_bind (wpAny_bind (kas_mapM (r := Value.type "tuple") _ (fun v hv Q' hq => (tup_type (t v hv)).here hq) (wpAny_pure ?_))))
    have all : ((List.map (fun _ => Value.type "tuple") (v0 :: vs)).toArray.all fun x => x == Value.type "tuple") = true := by simp
    have h0 : (List.map (fun _ => Value.type "tuple") (v0 :: vs)).toArray[0]? = some (Value.type "tuple") := by simp
    rw [h0]
    simp only [all, if_true]
    exact wpAny_pure (wpAny_pure h)
end
section
variable {prog : Program} {w : World} {A : Around} {E : Value → Shared → Prop} {s : Shared}
theorem tup_lt {v u : Value} {ns ms : List Int} {Q : Bool → Shared → Prop} (hu : A.units < cLine) (hv : TupN s.heap v ns) (hw : TupN s.heap u ms) (h : Q (HT.lexLt ns ms) s) : wpAny (model prog w) A (keyLt' oneType' v u) Q E s := by
  obtain ⟨a, xs, rfl, ⟨⟨c1, d1, da, s1⟩, ho, hc, n, hd⟩, i⟩ := hv
  obtain ⟨b, ys, rfl, ⟨⟨c2, d2, db, s2⟩, ho2, hc2, n2, hd2⟩, j⟩ := hw
  simp only at hc hd hc2 hd2
  subst hc hd hc2 hd2
  rw [keyLt'_oneType, oneLt'_eq]
  simp only [if_true]
  refine wpAny_bind (wpAny_cRoomFor hu ?_)
  refine wpAny_bind (wpAny_callSpecialIfBound?_slot ⟨_, ho, rfl⟩ PySem.F.slot_tuple_lt (call_meets PySem.F.slot_tuple_lt ⟨_, ho, rfl⟩ PySem.F.entry_tuple_lt (PySem.F.args_tuple_lt_2 _ _) (HT.tuple_lt_ints a b xs ys n n2 d1 d2 s1 s2 ns ms i j) ⟨ho, ho2, ?_⟩))
  exact wpAny_truthy_bool h
theorem tup_sortable {a : Addr} {v0 : Value} {vs : List Value} {k : Value → List Int} (hu : A.units < cLine) (t : ∀ v ∈ v0 :: vs, TupN s.heap v (k v)) (e : k v0 = []) (ha : ∀ o, s.heap.get? a = some o → o.cls ≠ .type "tuple") :
    SrtO.SortableO prog w A s a (v0 :: vs) fun v u => HT.lexLt (k v) (k u) := by
  intro h' keep
  have t' : ∀ v ∈ v0 :: vs, TupN h' v (k v) := fun v hv => (t v hv).keeps fun b o g c => keep b o (fun z => by subst z; exact ha o g c) g
  exact ⟨oneType', fun Q E hq => tup_kind (s := { s with heap := h' }) t' e hq, fun p q hp hq => tup_lt (s := { s with heap := h' }) hu (t' p.1 hp) (t' q.1 hq) ⟨rfl, rfl⟩⟩
end
end L2
namespace L2
open PySem PySem.Spec PyProof.Rows
theorem vals_refsA : ∀ L : List (Addr × List Int), Vals (L.map fun p => V.ref p.1) (L.map fun p => Value.ref p.1)
  | [] => .nil
  | p :: L => .cons rfl (vals_refsA L)
/-- sorted(xs), xs a list of tuples of ints, the first of them empty -/
def rSortE (K : PySem.W.Frag) : List V → Hp → VK → Prop := fun vs H Q => ∃ (a : Addr) (ks : List (Addr × List Int)), vs = [V.ref a] ∧ SqL K H a (ks.map fun p => V.ref p.1) ∧ (∀ p ∈ ks, SqT K H p.1 (p.2.map V.int)) ∧ (∃ p r, ks = p :: r ∧ p.2 = []) ∧
  ∀ (L : List (Addr × List Int)) (p : Addr), L.Perm ks → L.Pairwise (fun q r => HT.lexLt r.2 q.2 = false) → H p = none → Q (.ref p) (upd H p (.lst (L.map fun q => V.ref q.1)))
/-- the ints by the address -/
def atK (ks : List (Addr × List Int)) : Value → List Int
  | .ref a => (ks.lookup a).getD []
  | _ => []
theorem mem_lookA {a : Addr} {y : List Int} : ∀ {l : List (Addr × List Int)}, l.lookup a = some y → (a, y) ∈ l
  | [], h => by cases h
  | x :: l, h => by
    rw [List.lookup_cons] at h
    by_cases q : (a == x.1) = true
    · rw [q] at h
      have e : x.2 = y := Option.some.inj h
      have e2 : a = x.1 := eq_of_beq q
      rw [← e, e2]
      exact List.mem_cons_self
    · simp only [q] at h
      exact List.mem_cons_of_mem _ (mem_lookA h)
theorem atK_of {h : Heap} {ks : List (Addr × List Int)} (t : ∀ p ∈ ks, TupN h (.ref p.1) p.2) : ∀ p ∈ ks, atK ks (.ref p.1) = p.2 := fun p hp => by
  obtain ⟨y, hy⟩ : ∃ y, ks.lookup p.1 = some y := by
    have e : ∀ l : List (Addr × List Int), p ∈ l → ∃ y, l.lookup p.1 = some y := fun l => by
      induction l with
      | nil => intro h; cases h
      | cons x l ih =>
        intro h
        rw [List.lookup_cons]
        by_cases q : p.1 == x.1
        · simp [q]
        · simp only [q]
          rcases List.mem_cons.mp h with z | z
          · rw [z] at q; simp at q
          · exact ih z
    exact e ks hp
  have m := mem_lookA hy
  have t1 := t p hp
  have t2 := t _ m
  show (ks.lookup p.1).getD [] = p.2
  rw [hy]
  exact t2.ints.symm.trans t1.ints
section
variable {X : Cx}
theorem cr_sortE (hu : X.A.units + 64 < cLine) : CallR X (.builtin "sorted") (rSortE X.K) := by
  intro pins s σ H vs us Q I r h
  obtain ⟨a, ks, rfl, hs, hk, ⟨p0, r0, rfl, e0⟩, q⟩ := h
  obtain ⟨its, rv, pl, hz⟩ := I.list hs
  have ei : its = (p0 :: r0).map fun p => Value.ref p.1 := refs_of_vals rv
  have tn : ∀ p ∈ p0 :: r0, TupN s.heap (.ref p.1) p.2 := fun p hp => tupI_raw I (hk p hp)
  have ak := atK_of tn
  rw [Vals.ref1 r]
  have t : ∀ v ∈ its, TupN s.heap v (atK (p0 :: r0) v) := fun v hv => by
    rw [ei] at hv
    obtain ⟨p, hp, rfl⟩ := List.mem_map.mp hv
    rw [ak p hp]
    exact tn p hp
  have hzs : its.length ≤ sizeLine := by rw [← rv.length]; exact hz
  have ei' : its = Value.ref p0.1 :: r0.map fun p => Value.ref p.1 := ei
  refine SrtO.sorted_ord (NtL.swo_lexL fun u => atK (p0 :: r0) u) pl.isList hzs (fun _ h1 D hD keep => ?_) fun out h1 h2 => ?_
  · rw [ei'] at t ⊢
    refine tup_sortable (s := { s with heap := h1 }) (by simp only [Around.in1_units]; omega) (fun v hv => (t v hv).keeps fun b o g c => (keep b o g).2) ((ak p0 List.mem_cons_self).trans e0) fun o g => ?_
    rw [hD] at g
    cases g
    show Value.type "list" ≠ Value.type "tuple"
    decide
  · obtain ⟨L, hL, eL⟩ := Py.perm_lift (f := fun p : Addr × List Int => Value.ref p.1) h2.perm (p0 :: r0) ei
    obtain ⟨ep, he'⟩ := PyProof.Rows.sortedAll_at s.heap its out.toArray
    have hlen : (L.map fun p => V.ref p.1).length ≤ sizeLine := by
      rw [List.length_map, hL.length_eq]
      rw [List.length_map] at hz
      exact hz
    have inL : ∀ p ∈ L, p ∈ p0 :: r0 := fun p hp => hL.mem_iff.mp hp
    have pw : L.Pairwise fun q r => HT.lexLt r.2 q.2 = false := by
      rw [eL] at h1; unfold SrtO.Srtd at h1; rw [List.pairwise_map] at h1
      refine List.Pairwise.imp_of_mem (fun {x y} hx hy h => ?_) h1
      have h' : HT.lexLt (atK (p0 :: r0) (Value.ref y.1)) (atK (p0 :: r0) (Value.ref x.1)) = false := h
      rw [ak x (inL x hx), ak y (inL y hy)] at h'
      exact h'
    exact ⟨.ref _, upd H (s.heap.objs.size + 1) (.lst (L.map fun p => V.ref p.1)), I.laid (t' := s.toks) (fun _ _ => PyProof.Rows.sortedAll_old) (Nat.le_succ _) ⟨hlen, out, ep, by rw [eL]; exact vals_refsA L, he'⟩, rfl, q L _ hL pw (I.hok.fresh (Nat.le_succ _))⟩
end
end L2
namespace Py
open PySem PySem.Spec PyProof.Rows L2
def insE (x : List Int) : List (List Int) → List (List Int)
  | [] => [x]
  | y :: r => if HT.lexLt y x then y :: insE x r else x :: y :: r
def nextE : List (List Int) → Bool
  | x :: y :: r => (HT.lexLt x y || x == y) && nextE (y :: r)
  | _ => true
theorem lex_go {x y z : List Int} (h1 : HT.lexLt x y = true) (h2 : HT.lexLt y z = true) : HT.lexLt x z = true :=
  (NtL.swo_lexL (fun v : List Int => v)).ltle h1 (NtL.lex_asym _ _ h2)
theorem nextE_of : ∀ {l : List (List Int)}, nextE l = true → l.Pairwise fun x y => HT.lexLt x y = true ∨ x = y
  | [], _ => .nil
  | [a], _ => .cons (fun _ h => by cases h) .nil
  | a :: b :: r, h => by
    simp only [nextE, Bool.and_eq_true, Bool.or_eq_true, beq_iff_eq] at h
    have ih := nextE_of h.2
    refine .cons (fun y hy => ?_) ih
    rcases List.mem_cons.mp hy with e | m
    · rw [e]; exact h.1
    · rcases h.1 with q | q
      · rcases List.rel_of_pairwise_cons ih m with q2 | q2
        · exact .inl (lex_go q q2)
        · rw [← q2]; exact .inl q
      · rw [q]; exact List.rel_of_pairwise_cons ih m
theorem sorted_twoE : ∀ (r s : List (List Int)), r.Pairwise (fun x y => HT.lexLt x y = true ∨ x = y) → s.Pairwise (fun x y => HT.lexLt y x = false) → s.Perm r → r = s
  | [], s, _, _, p => (List.Perm.eq_nil p).symm
  | x :: r, [], _, _, p => absurd p.symm.eq_nil (by simp)
  | x :: r, y :: s, h1, h2, p => by
    have e : x = y := by
      rcases List.mem_cons.mp (p.mem_iff.mp List.mem_cons_self) with e | m
      · exact e.symm
      · rcases List.mem_cons.mp (p.symm.mem_iff.mp List.mem_cons_self) with e | m2
        · exact e
        · rcases List.rel_of_pairwise_cons h1 m with q | q
          · have z2 := List.rel_of_pairwise_cons h2 m2
            rw [q] at z2
            cases z2
          · exact q
    subst e
    rw [sorted_twoE r s (List.Pairwise.of_cons h1) (List.Pairwise.of_cons h2) (List.Perm.cons_inv p)]
def sortE (ks : List (List Int)) : R (List (List Int)) :=
  let r := ks.foldr insE []
  if nextE r = true ∧ r.isPerm ks = true then .ok r else .stuck
def hdE : List (List Int) → Bool
  | [] :: _ => true
  | _ => false
def sortAnyD (x : Dv) : R (List Dv) := match x with
  | .lst l => (tupIs l).bind fun ks => (if hdE ks = true then sortE ks else sortT ks).map fun r => r.map fun ns => Dv.tup (ns.map Dv.int)
  | _ => .stuck
section
variable {S : Sx} {k : Nat} {f : Fm} {a : Expr} {ma : En → R Dv} {pos p : Pos}
def rSortB (X : Cx) : List V → Hp → VK → Prop := fun vs H Q => rSortA X vs H Q ∨ (X.A.units + 64 < cLine ∧ rSortE X.K vs H Q)
theorem cr_sortB {X : Cx} : CallR X (.builtin "sorted") (rSortB X) := fun pins s σ H vs us Q I r h => by
  rcases h with h | ⟨hu, h⟩
  · exact cr_sortA pins s σ H vs us Q I r h
  · exact cr_sortE hu pins s σ H vs us Q I r h
theorem un_sortB : Un1 S k f (gL S) rSortB sortAnyD := by
  intro X W σ F H v x Q fit ex rx hp
  cases x with
  | lst l =>
    simp only [sortAnyD] at hp
    cases q1 : tupIs l with
    | stuck => rw [q1] at hp; exact hp.elim
    | err n => exact absurd q1 (tupIs_noerr l n)
    | ok ns =>
      rw [q1] at hp
      simp only [R.bind] at hp
      by_cases he : hdE ns = true
      · rw [if_pos he] at hp
        unfold sortE at hp
        dsimp only at hp
        generalize hr : ns.foldr insE [] = r at hp
        split at hp
        · rename_i hc
          obtain ⟨nxt, perm⟩ := hc
          replace hp : Post S W σ F H (gL S) (.ok (r.map fun ns => Dv.tup (ns.map Dv.int))) Q := hp
          obtain ⟨t, vs, rfl, ht, rl⟩ := rx.lstAt ex
          obtain ⟨ks, e1, e2, e3⟩ := tupIs_ok q1 rl
          subst e1
          refine .inr ⟨?_, t, ks, rfl, SqL.of ht, fun p hp => SqT.of (ex _ _ (e3 p hp)), ?_, fun L p' hL pw hp' => ?_⟩
          · exact fit.room.units
          · cases ks with
            | nil => rw [← e2] at he; cases he
            | cons q r =>
              refine ⟨q, r, rfl, ?_⟩
              rw [← e2, List.map_cons] at he
              cases h : q.2 with
              | nil => rfl
              | cons x y => rw [h] at he; cases he
          · have srt : (L.map (·.2)).Pairwise fun x y => HT.lexLt y x = false := by
              rw [List.pairwise_map]
              exact pw
            have er := sorted_twoE r (L.map (·.2)) (nextE_of nxt) srt ((hL.map (·.2)).trans (by rw [e2]; exact (List.isPerm_iff.mp perm).symm))
            have fp : F p' = none := Evl.fresh_back ex hp'
            refine hp (.ref p') F _ (Grow.mine ex hp') ⟨p', _, rfl, hp', fp, upd_same, ?_⟩
            rw [er, List.map_map]
            exact rp_tups fun q hq => e3 q (hL.mem_iff.mp hq)
        · exact hp.elim
      · rw [if_neg he] at hp
        refine .inl (un_sortA X W σ F H v (.lst l) Q fit ex rx ?_)
        simp only [sortTupD, q1, R.bind]
        exact hp
  | _ => exact hp.elim
theorem jl_sortedE (hn : S.mg "sorted" = none) (ja : JB S k f a ma) (h : plainE a = true := by rfl) (hg : glB f.sc "sorted" = true := by decide +kernel) : JL S k f (.Call (.Name "sorted" p) [a] [] pos) (fun env => (ma env).bind sortAnyD) :=
  j_call1 anti_L (fun X _ => cr_sortB) un_sortB boot_sorted hg hn ja h
end
end Py
namespace L2
open PySem PySem.Spec PyProof.Rows PySem.W PySem.Calls
/-! ### sorted(d), d a dict whose keys are tuples of ints -/
section
variable {prog : Program} {w : World} {A : Around} {E : Value → Shared → Prop} {s : Shared} {T : String} {r d : Addr} {n : Nat} {P : Nat → Value → Prop} {OK : Heap → Prop}
theorem collectK {R : List Value → Shared → Prop} (K : PySem.W.KdlSrc prog w T r d n P OK) (hh : A.handled = none) (hok : OK s.heap) (hn : n ≤ sizeLine)
    (h : ∀ (h' : Heap) (tk : Nat) (acc : Array Value), (∀ b o, s.heap.get? b = some o → h'.get? b = some o) → s.heap.objs.size < h'.objs.size → ItemsOf P acc n → R acc.toList { s with heap := h', toks := tk }) :
    wpAny (model prog w) A (collect (.ref r)) R E s := by
  have hlt := K.there _ hok
  unfold collect
  refine wpAny_bind (wpAny_runValue (codeAny_builtin entry_proto_collect' ?_))
  rw [Around.under_plainId PySem.F.plain_proto_collect _]
  show wpAny _ A.in1 (newList [] >>= fun l => again (.builtin "list.__iadd__" ⟨[l, .ref r], []⟩)) _ _ s
  refine wpAny_bind (wpAny_newObj_type ?_)
  refine wpAny_pure ⟨plainId_quiet PySem.F.plain_list_iadd _, codeAny_builtin entry_list_iadd' ?_⟩
  rw [Around.under_plainId PySem.F.plain_list_iadd _]
  have hS₁ : (s.heap.push { cls := .type "list", data := .seq ([] : List Value).toArray }).get? s.heap.objs.size = some { cls := .type "list", data := .seq #[] } := Heap.get?_push_size _ rfl
  show wpAny _ A.in1 (Builtin.List.listExtendWith (.ref s.heap.objs.size) (.ref r) (.ref s.heap.objs.size)) _ _ _
  have key := PySem.W.kdl_extend (prog := prog) (w := w) (A := A) (s := { s with heap := s.heap.push { cls := .type "list", data := .seq ([] : List Value).toArray } })
    (R := fun (q : Result) (s' : Shared) => ∃ (h' : Heap) (tk : Nat) (acc' : Array Value) (c' : Nat), q = .ok (.ret (.ref s.heap.objs.size)) ∧ s' = { s with heap := h', toks := tk } ∧
      (∀ b o, s.heap.get? b = some o → h'.get? b = some o) ∧ h'.get? s.heap.objs.size = some { cls := .type "list", dict := none, data := .seq acc' c', slots := #[] } ∧ ItemsOf P acc' n)
    K hh (K.keep _ _ hok fun b _ o e => Heap.get?_push_of_some _ e) s.heap.objs.size (Nat.ne_of_gt hlt.1) (Nat.ne_of_gt hlt.2) (.ref s.heap.objs.size) 0 hS₁
    (fun h' tk acc' c' hk hS' hacc => ⟨h', tk, acc', c', rfl, rfl, fun b o e => hk b o (Nat.ne_of_lt (Heap.lt_size e)) (Heap.get?_push_of_some _ e), hS', hacc⟩) hn
  refine wpAny_mono key (fun fin s' x => ?_) fun e s' x => ?_
  · cases fin with
    | done f =>
      obtain ⟨h', tk, acc', c', e, rfl, hk, hS', hacc⟩ := x
      cases e
      show wpAny _ A (load s.heap.objs.size >>= _) _ _ _
      refine wpAny_bind (wpAny_load hS' ?_)
      exact wpAny_pure (h h' tk acc' hk (Heap.lt_size hS') hacc)
    | again c₁ =>
      refine ⟨x.1, codeAny_mono x.2 fun q s₂ y => ?_⟩
      obtain ⟨h', tk, acc', c', rfl, rfl, hk, hS', hacc⟩ := y
      show wpAny _ A (load s.heap.objs.size >>= _) _ _ _
      refine wpAny_bind (wpAny_load hS' ?_)
      exact wpAny_pure (h h' tk acc' hk (Heap.lt_size hS') hacc)
  · obtain ⟨_, _, _, _, e', _⟩ := x
    cases e'
theorem sortedK {Q : Value → Shared → Prop} (K : PySem.W.KdlSrc prog w T r d n P OK) (hh : A.handled = none) (hok : OK s.heap) (hn : n ≤ sizeLine)
    (h : ∀ (h' : Heap) (tk : Nat) (acc : Array Value), (∀ b o, s.heap.get? b = some o → h'.get? b = some o) → s.heap.objs.size < h'.objs.size → ItemsOf P acc n →
      wpAny (model prog w) A.in1 (call (.builtin "list.sort") [.ref h'.objs.size]) (fun _ s' => Q (.ref h'.objs.size) s') E { s with heap := h'.push { cls := .type "list", data := .seq acc.toList.toArray }, toks := tk }) :
    wpAny (model prog w) A (call (.builtin "sorted") [.ref r]) Q E s := by
  refine Calls.call_function_entry kind_sorted plain_sorted entry_sorted (args_sorted1 _) ?_
  unfold Builtin.«sorted»
  refine wpAny_bind (m := checkCount "sorted" 1 1 _) (wpAny_pure ?_)
  refine wpAny_bind (collectK (A := A.in1) K hh hok hn fun h' tk acc hk hlt hacc => ?_)
  refine wpAny_bind (wpAny_newList ?_ (by rw [Array.length_toList, hacc.1]; exact hn))
  have hg := h h' tk acc hk hlt hacc
  refine wpAny_bind (wpAny_holding (wpAny_mono hg (fun _ s' x => ?_) fun _ _ e => e))
  exact wpAny_pure ⟨_, rfl, x⟩
end
theorem keys_pairs {H : Hp} : ∀ {kvs : List (List Key × V)} {bs : List Addr} {ks : List (List Int)}, IsKeys H kvs bs → kvs.map (·.1) = ks.map (·.map Sum.inl) → ∃ L : List (Addr × List Int), L.map (·.1) = bs ∧ L.map (·.2) = ks ∧ ∀ q ∈ L, H q.1 = some (.tup (q.2.map V.int))
  | _, _, [], .nil, _ => ⟨[], rfl, rfl, fun q h => by cases h⟩
  | _, _, _ :: _, .nil, e => by cases e
  | _ :: _, _ :: _, [], .cons _ _, e => by cases e
  | p :: kvs, b :: bs, k :: ks, .cons r t, e => by
    rw [List.map_cons, List.map_cons] at e
    obtain ⟨e1, e2⟩ := List.cons.inj e
    obtain ⟨L, h1, h2, h3⟩ := keys_pairs t e2
    refine ⟨(b, k) :: L, by rw [List.map_cons, h1], by rw [List.map_cons, h2], fun q hq => ?_⟩
    rcases List.mem_cons.mp hq with z | z
    · subst z
      have z : H b = some (.tup (p.1.map kV)) := r
      rw [e1, List.map_map] at z
      exact z
    · exact h3 q z
/-- sorted(d), d a dict of fewer than 64 keys, each a tuple of n ints in [0, B) -/
def rSortDT : List V → Hp → VK → Prop := fun vs H Q => ∃ (a : Addr) (kvs : List (List Key × V)) (ks : List (List Int)) (d : Nat) (B : Int), vs = [V.ref a] ∧ H a = some (.dT kvs) ∧ kvs.map (·.1) = ks.map (·.map Sum.inl) ∧ ks.length < 64 ∧ 1 ≤ d ∧ (∀ k ∈ ks, k.length = d ∧ TS.Bd B k) ∧
  ∀ (L : List (Addr × List Int)) (p : Addr), (L.map (·.2)).Perm ks → (∀ q ∈ L, H q.1 = some (.tup (q.2.map V.int))) → L.Pairwise (fun q r => TS.code B q.2 ≤ TS.code B r.2) → H p = none → Q (.ref p) (upd H p (.lst (L.map fun q => V.ref q.1)))
section
variable {X : Cx}
theorem cr_sortDT (hc : X.calm = true) : CallR X (.builtin "sorted") rSortDT := by
  intro pins s σ H vs us Q I r h
  obtain ⟨a, kvs, ks, d, B, rfl, ha, hkeys, h64, hd1, hB, q⟩ := h
  rw [Vals.ref1 r]
  obtain ⟨z, hs, xs, pr, o, es, ep, ho, hx, hdt, he, hn⟩ := (show ObjOk X.prog X.w H s.heap a (.dT kvs) from I.hok a _ ha)
  have l1 : es.size = xs.length := size_of_entries he
  have l2 : kvs.length = xs.length := Paired.length pr
  have l3 : kvs.length = ks.length := by have z := congrArg List.length hkeys; rwa [List.length_map, List.length_map] at z
  refine sortedK (kdl_raw hs hx hdt) (I.ok.hd hc) ho (by omega) fun h' tk acc' kp hlt it => ?_
  have ea : acc'.toList = xs.map fun x => Value.ref x.2.1 := by
    have hl : acc'.toList.length = xs.length := by rw [Array.length_toList, it.1]; exact l1
    apply List.ext_getElem?
    intro j
    rw [List.getElem?_map]
    cases hj : acc'.toList[j]? with
    | none =>
      have h1 := List.getElem?_eq_none_iff.mp hj
      rw [List.getElem?_eq_none (by omega)]
      all_goals rfl
    | some v =>
      obtain ⟨en, hen, hv⟩ := it.2 j v (by rw [← Array.getElem?_toList]; exact hj)
      have qe := entry_at he j
      rw [hen] at qe
      cases hb : xs[j]? with
      | none =>
        rw [hb] at qe
        exact nomatch (show some en = none from qe)
      | some b =>
        rw [hb] at qe
        have e2 : en = entryOfKey (tupleKind (mixKind X.prog X.w)) b := Option.some.inj qe
        rw [hv, e2]
        all_goals rfl
  obtain ⟨L, b1, b2, b3⟩ := keys_pairs (isKeys_of pr) hkeys
  have eb : acc'.toList = L.map fun q => Value.ref q.1 := by
    rw [ea]
    have z : (L.map (·.1)).map Value.ref = (xs.map fun x => x.2.1).map Value.ref := by rw [b1]
    rw [List.map_map, List.map_map] at z
    exact z.symm
  have lL : L.length = ks.length := by rw [← b2, List.length_map]
  have I2 : Inv X pins σ H { s with heap := h', toks := tk } := I.kept (t' := tk) kp
  have keep2 : ∀ b u, h'.get? b = some u → (h'.push (seqObj "list" acc'.toList.toArray 0)).get? b = some u := fun b u e => Heap.get?_push_of_some _ e
  have tu : ∀ q ∈ L, TS.TupInts (h'.push (seqObj "list" acc'.toList.toArray 0)) (.ref q.1) q.2 := fun q hq =>
    (tupI_raw I2 (SqT.of (b3 q hq))).keeps fun b u e _ => keep2 b u e
  have hoL : (h'.push (seqObj "list" acc'.toList.toArray 0)).get? h'.objs.size = some (seqObj "list" acc'.toList.toArray 0) := Heap.get?_push_size _ rfl
  have hvl : acc'.toList.length < 64 := by rw [eb, List.length_map]; omega
  have hLB : ∀ q ∈ L, q.2.length = d ∧ TS.Bd B q.2 := fun q hq => hB q.2 (by rw [← b2]; exact List.mem_map.mpr ⟨q, hq, rfl⟩)
  have tk2 : TS.TupsOk (h'.push (seqObj "list" acc'.toList.toArray 0)) d B acc'.toList := fun v hv => by
    rw [eb] at hv
    obtain ⟨q, hq, rfl⟩ := List.mem_map.mp hv
    exact ⟨q.2, tu q hq, (hLB q hq).1, (hLB q hq).2⟩
  refine TS.call_sort_tups (s := { s with heap := h'.push (seqObj "list" acc'.toList.toArray 0), toks := tk }) hoL hvl hd1 tk2 fun out a1 a2 => ?_
  obtain ⟨c, hc'⟩ := sortedHeap_at (vs := acc'.toList) (out := out) hoL
  obtain ⟨L', hL, eL⟩ := Py.perm_lift (f := fun p : Addr × List Int => Value.ref p.1) a1 L eb
  have inL : ∀ p ∈ L', p ∈ L := fun p hp => hL.mem_iff.mp hp
  have pw : L'.Pairwise (fun q r => TS.code B q.2 ≤ TS.code B r.2) := by
    rw [eL, List.pairwise_map] at a2
    refine List.Pairwise.imp_of_mem (fun {x y} hx hy h => ?_) a2
    have f1 : TS.intsOf (h'.push (seqObj "list" acc'.toList.toArray 0)) (.ref x.1) = x.2 := (tu x (inL x hx)).ints
    have f2 : TS.intsOf (h'.push (seqObj "list" acc'.toList.toArray 0)) (.ref y.1) = y.2 := (tu y (inL y hy)).ints
    have h' : TS.code B (TS.intsOf (h'.push (seqObj "list" acc'.toList.toArray 0)) (.ref x.1)) ≤ TS.code B (TS.intsOf (h'.push (seqObj "list" acc'.toList.toArray 0)) (.ref y.1)) := h
    rw [f1, f2] at h'
    exact h'
  have hlen : (L'.map fun p => V.ref p.1).length ≤ sizeLine := by
    rw [List.length_map, hL.length_eq, lL]
    omega
  have keep3 : ∀ b u, h'.get? b = some u → (sortedHeap (h'.push (seqObj "list" acc'.toList.toArray 0)) h'.objs.size acc'.toList out).get? b = some u := fun b u e => by
    have hl := Heap.lt_size e
    rw [sortedHeap_old (Nat.ne_of_lt hl) (by rw [size_push']; exact Nat.lt_succ_of_lt hl)]
    exact keep2 b u e
  refine ⟨.ref h'.objs.size, upd H h'.objs.size (.lst (L'.map fun p => V.ref p.1)), ?_, rfl, q L' _ ((hL.map (·.2)).trans (by rw [b2])) (fun p hp => b3 p (inL p hp)) pw (I2.hok.fresh (Nat.le_refl _))⟩
  exact I2.laid (t' := tk) keep3 (Nat.le_refl _) ⟨hlen, out.toList, c, by rw [eL]; exact vals_refsA L', hc'⟩
end
end L2
namespace HT
open PySem PySem.Spec PyProof.Rows PySem.W
/-! ### t[::-1], t a tuple -/
section
variable {prog : Program} {w : World} {A : Around} {E : Value → Shared → Prop} {s : Shared}
theorem sliceApplied_rev {sl : Addr} {vl vu vs : Value} {n : Nat} {Q : Int × Int × Nat → Shared → Prop} (hs : s.heap.IsSliceOf sl vl vu vs) (pl : IsPart vl none) (pu : IsPart vu none) (ps : IsPart vs (some (-1)))
    (h : Q ((n : Int) - 1, -1, n) s) : wpAny (model prog w) A (Builtin.Slice.sliceApplied (.ref sl) (pure (n : Int))) Q E s := by
  obtain ⟨os, hos, hcs, hds⟩ := id hs
  unfold Builtin.Slice.sliceApplied Builtin.Slice.sliceFields
  refine wpAny_bind (wpAny_bind (wpAny_field hos hds (x := vl) rfl (wpAny_bind (wpAny_field hos hds (x := vu) rfl (wpAny_bind (wpAny_field hos hds (x := vs) rfl (wpAny_pure ?_)))))))
  refine wpAny_bind (slicePart_ ps ?_)
  show wpAny _ _ (if ((-1 : Int) == 0) = true then _ else _) _ _ s
  rw [if_neg (by decide)]
  refine wpAny_bind (slicePart_ pl (wpAny_bind (slicePart_ pu (wpAny_bind (wpAny_pure ?_)))))
  show wpAny _ _ (pure ((n : Int) - 1, (-1 : Int), Builtin.Slice.slicePlaces ((n : Int) - 1) (-1) (-1))) _ _ s
  have e : Builtin.Slice.slicePlaces ((n : Int) - 1) (-1) (-1) = n := by
    unfold Builtin.Slice.slicePlaces
    rw [if_neg (by decide)]
    by_cases z : (n : Int) - 1 > -1
    · rw [if_pos z]
      have z2 : -(-1 : Int) = 1 := by decide
      rw [z2, Int.ediv_one]
      omega
    · rw [if_neg z]
      omega
  rw [e]
  exact wpAny_pure h
theorem pick_rev (xs : Array Value) : ((List.range xs.size).filterMap fun (m : Nat) => xs[(((xs.size : Int) - 1) + (m : Int) * (-1)).toNat]?).toArray = xs.toList.reverse.toArray := by
  have e : ∀ n : Nat, n ≤ xs.size → ((List.range n).filterMap fun (m : Nat) => xs[(((xs.size : Int) - 1) + (m : Int) * (-1)).toNat]?) = (xs.toList.reverse).take n := by
    intro n
    induction n with
    | zero => intro _; rfl
    | succ n ih =>
      intro h
      rw [List.range_succ, List.filterMap_append, ih (Nat.le_of_succ_le h), List.take_succ]
      congr 1
      have z : (((xs.size : Int) - 1) + (n : Int) * (-1)).toNat = xs.size - 1 - n := by omega
      have lt : xs.size - 1 - n < xs.size := by omega
      have z2 : xs[xs.size - 1 - n]? = some xs[xs.size - 1 - n] := Array.getElem?_eq_getElem lt
      have z3 : xs.toList.reverse[n]? = some xs[xs.size - 1 - n] := by
        rw [List.getElem?_reverse (by rw [Array.length_toList]; omega), Array.length_toList, Array.getElem?_toList]
        exact z2
      simp only [List.filterMap_cons, List.filterMap_nil, z, z2, z3, Option.toList_some]
  rw [e _ (Nat.le_refl _)]
  congr 1
  rw [List.take_of_length_le (by rw [List.length_reverse, Array.length_toList]; exact Nat.le_refl _)]
theorem getItem_tuple_rev {t sl : Addr} {items : Array Value} {vl vu vs : Value} {Q : Value → Shared → Prop} (ht : IsTup s.heap t items) (hs : s.heap.IsSliceOf sl vl vu vs) (pl : IsPart vl none) (pu : IsPart vu none) (ps : IsPart vs (some (-1)))
    (h : Q (.ref s.heap.objs.size) { s with heap := s.heap.push { cls := .type "tuple", data := .seq items.toList.reverse.toArray } })
    (hsz : items.size ≤ sizeLine) : wpAny (model prog w) A (getItem (.ref t) (.ref sl)) Q E s := by
  have htake : sizeOk (.seq items.toList.reverse.toArray) := by
    show items.toList.reverse.toArray.size ≤ sizeLine
    rw [List.size_toArray, List.length_reverse, Array.length_toList]
    exact hsz
  obtain ⟨os, hos, hcs, hds⟩ := id hs
  have hTs : s.TypeIs (.ref sl) "slice" := ⟨os, hos, hcs⟩
  unfold getItem
  try with_reducible refine wpAny_holding ?_
  first | refine wpAny_bind (wpAny_pure ?_) | skip
  refine wpAny_bind (wpAny_sequenceKey ht.typeIs (by decide) ?_)
  refine wpAny_bind (wpAny_callSpecial?_slot (name := Str.ofString "__getitem__") ht.typeIs PyProof.Rows.slot_tuple_getitem
    (wpAny_call_entry PyProof.Rows.slot_tuple_getitem ht.typeIs entry_tuple_getitem ?_ (args_tuple_getitem _ _)))
  show wpAny _ _ (Builtin.Tuple.tupleItemsOf (.ref t) >>= _) _ _ s
  refine wpAny_bind (tupleItemsOf_ ht ?_)
  refine wpAny_bind (wpAny_typeOf hTs ?_)
  rw [if_pos (by decide)]
  refine wpAny_bind (sliceApplied_rev hs pl pu ps ?_)
  have hno : ¬ ((((items.size : Int) - 1) == 0 && (-1 : Int) == 1 && items.size == items.size) = true) := by
    intro q
    rw [Bool.and_eq_true, Bool.and_eq_true] at q
    exact absurd q.1.2 (by decide)
  show wpAny _ _ (if (((items.size : Int) - 1) == 0 && (-1 : Int) == 1 && items.size == items.size) = true then _ else _) _ _ s
  rw [if_neg hno, pick_rev]
  first
    | exact wpAny_bind (m := Builtin.Tuple.tupleExact _) (wpAny_newObj_type (wpAny_pure ⟨_, rfl, wpAny_pure h⟩) htake)
    | exact wpAny_bind (m := Builtin.Tuple.tupleExact _) (wpAny_newObj_type (wpAny_bind (wpAny_pure (wpAny_pure ⟨_, rfl, wpAny_pure h⟩))) htake)
    | exact wpAny_bind (wpAny_bind (m := Builtin.Tuple.tupleExact _) (wpAny_newObj_type (wpAny_pure (wpAny_pure ⟨_, rfl, wpAny_pure h⟩)) htake))
    | exact wpAny_bind (wpAny_bind (m := Builtin.Tuple.tupleExact _) (wpAny_newObj_type (wpAny_pure ⟨_, rfl, wpAny_pure h⟩) htake))
end
end HT
namespace L2
open PySem PySem.Spec PyProof.Rows
section
variable {X : Cx}
def tRevT (K : PySem.W.Frag) (te : TE) : TE := fun σ H Q => te σ H fun x H1 => ∃ a xs, x = .ref a ∧ SqT K H1 a xs ∧ ∀ p, H1 p = none → Q (.ref p) (upd H1 p (.tup xs.reverse))
theorem pe_revT {e : Expr} {te : TE} {k : Nat} {p1 p2 p3 pos : Pos} (he : PE X e te) : PE X (.Subscript e (.Slice none none (some (.UnaryOp .USub (.Constant (.int 1) k p1) p2)) p3) pos) (tRevT X.K te) := by
  refine ⟨fun pins s σ H Q I h => ?_⟩
  refine Subscript_ (thn (he.run pins s σ H _ I h) fun v s1 ⟨x, H1, I1, r1, q1⟩ => ?_)
  obtain ⟨a, xs, ex, hx, q⟩ := q1
  subst ex
  cases r1
  have hst : PO X (some (.UnaryOp .USub (.Constant (.int 1) k p1) p2)) (tPart (tUn (rU fun i => .int (-i)) (tC (.int 1)))) := po_some (pe_un un_neg pe_int)
  refine wpAny_Slice (thn (po_none.run pins s1 σ H1 (fun o H2 => o = none ∧ H2 = H1) I1 ⟨rfl, rfl⟩) fun vl s2 ⟨l, H2, I2, pl, el, e2⟩ => ?_)
  subst el e2
  refine thn (po_none.run pins s2 σ H2 (fun o H3 => o = none ∧ H3 = H2) I2 ⟨rfl, rfl⟩) fun vu s3 ⟨u, H3, I3, pu, eu, e3⟩ => ?_
  subst eu e3
  refine thn (hst.run pins s3 σ H3 (fun o H4 => o = some (-1) ∧ H4 = H3) I3 ⟨1, rfl, -1, rfl, rfl, rfl⟩) fun vs s4 ⟨o, H4, I4, ps, eo, e4⟩ => ?_
  subst eo e4
  have I5 : Inv X pins σ H4 { s4 with heap := s4.heap.push { cls := .type "slice", data := .fields #[vl, vu, vs] } } := I4.kept (t' := s4.toks) fun b ob q => Heap.get?_push_of_some _ q
  obtain ⟨its, r, ht, hz⟩ := I5.tuple hx
  have hlen := r.length
  show wpAny (model X.prog X.w) X.A (subscriptTail e (.Slice none none (some (.UnaryOp .USub (.Constant (.int 1) k p1) p2)) p3) (.ref a) (.ref s4.heap.objs.size)) (EP X pins σ Q) X.xe { s4 with heap := s4.heap.push { cls := .type "slice", data := .fields #[vl, vu, vs] } }
  refine tail_any (ops := [.ref a, .ref s4.heap.objs.size]) ht.typeIs (PyProof.Rows.slot_tuple_getitem.lookup) ?_ (by with_unfolding_all rfl)
  refine HT.getItem_tuple_rev ht (Heap.IsSliceOf.new _ vl vu vs) pl pu ps ?_ (by rw [List.size_toArray]; omega)
  refine ⟨.ref _, _, I5.laid (t' := s4.toks) (o := .tup xs.reverse) (fun b ob q => Heap.get?_push_of_some _ q) (Nat.le_refl _) ?_, rfl, q _ (I5.hok.fresh (Nat.le_refl _))⟩
  exact ⟨by rw [List.length_reverse]; exact hz, _, r.reverse, IsTup.new _ _⟩
end
end L2
namespace Py
open PySem PySem.Spec PyProof.Rows L2
def revD : Dv → R Dv
  | .tup l => .ok (.tup l.reverse)
  | _ => .stuck
section
variable {S : Sx} {k : Nat} {f : Fm} {a : Expr} {ma : En → R Dv} {pos p1 p2 p3 : Pos} {n1 : Nat}
theorem jd_revT (ja : JB S k f a ma) : JD S k f (.Subscript a (.Slice none none (some (.UnaryOp .USub (.Constant (.int 1) n1 p1) p2)) p3) pos) (fun env => (ma env).bind revD) := j_pe fun X W fit tk => by
  refine ⟨_, pe_revT pe_rd, fun F0 H0 F H σ env Q eo hp => ?_⟩
  refine ja.go fit tk eo rfl hp anti_D fun x v F1 H1 g1 r1 eo1 hp1 => ?_
  cases x with
  | tup l =>
    obtain ⟨q, vs, rfl, fq, hq, rl⟩ := r1.tupAt g1.fh
    refine ⟨q, vs, rfl, SqT.of hq, fun p' hp' => hp1 (.ref p') _ _ (Grow.new g1.fh hp') ?_⟩
    exact Rp.tup upd_same (rl.rev.mono (Evl.Ex.new (Evl.fresh_back g1.fh hp')))
  | _ => exact hp1.elim
def maxLD : Dv → R Dv
  | .lst l => bigD (.lst l)
  | _ => .stuck
theorem jd_maxL (hn : S.mg "max" = none) (ja : JB S k f a ma) (h : plainE a = true := by rfl) (hg : glB f.sc "max" = true := by decide +kernel) : JD S k f (.Call (.Name "max" p1) [a] [] pos) (fun env => (ma env).bind maxLD) := by
  have z := jd_max1 (S := S) (k := k) (f := f) (pos := pos) (p := p1) hn ja h hg
  refine cast (congrArg (JD S k f _) (funext fun env => congrArg (R.bind (ma env)) (funext fun x => ?_))) z
  cases x <;> rfl
end
end Py
namespace Py
open PySem PySem.Spec PyProof.Rows L2 PySem.W

/-! ### < of data that are alike -/
def ltvL (lt eq : Dv → Dv → Bool) : List Dv → List Dv → Bool
  | [], [] => false
  | [], _ :: _ => true
  | _ :: _, [] => false
  | x :: xs, y :: ys => if eq x y = true then ltvL lt eq xs ys else lt x y
def ltv : Nat → Dv → Dv → Bool
  | _, .bl a, .bl b => !a && b
  | _, .int i, .int j => decide (i < j)
  | _, .str x, .str y => decide (x.cps.toList < y.cps.toList)
  | n + 1, .lst x, .lst y => ltvL (ltv n) (eqv n) x y
  | n + 1, .tup x, .tup y => ltvL (ltv n) (eqv n) x y
  | _, _, _ => false
def alkL (a : Dv → Dv → Bool) : List Dv → List Dv → Bool
  | x :: xs, y :: ys => a x y && alkL a xs ys
  | [], _ => true
  | _ :: _, [] => true
def alk : Nat → Dv → Dv → Bool
  | _, .non, .non => true
  | _, .bl _, .bl _ => true
  | _, .int _, .int _ => true
  | _, .str _, .str _ => true
  | n + 1, .lst x, .lst y => alkL (alk n) x y
  | n + 1, .tup x, .tup y => alkL (alk n) x y
  | _, _, _ => false
theorem alkL_py {n : Nat} (ih : ∀ x y, alk n x y = true → alike (py x) (py y) = true) : ∀ {xs ys : List Dv}, alkL (alk n) xs ys = true → alikeAll (pyL xs) (pyL ys) = true
  | [], ys, _ => by cases ys <;> simp [pyL, alikeAll]
  | _ :: _, [], _ => by simp [pyL, alikeAll]
  | x :: xs, y :: ys, h => by
    rw [alkL, Bool.and_eq_true] at h
    simp only [pyL, alikeAll, Bool.and_eq_true]
    exact ⟨ih x y h.1, alkL_py ih h.2⟩
theorem alk_py : ∀ (n : Nat) (x y : Dv), alk n x y = true → alike (py x) (py y) = true
  | 0, x, y, h => by
    cases x <;> cases y <;> first
      | (simp [alk] at h; done)
      | simp [py, alike]
  | n + 1, x, y, h => by
    cases x <;> cases y <;> first
      | (simp [alk] at h; done)
      | (simp only [alk] at h; simp only [py, alike]; exact alkL_py (alk_py n) h)
      | simp [py, alike]
theorem ltvL_py {n : Nat} (ih : ∀ x y, okv n x = true → okv n y = true → alk n x y = true → dataLt (py x) (py y) = ltv n x y) : ∀ {xs ys : List Dv}, xs.all (okv n) = true → ys.all (okv n) = true → alkL (alk n) xs ys = true →
    PyProof.Rows.lexLt itemOrd (keyToksAll (pyL xs)) (keyToksAll (pyL ys)) = ltvL (ltv n) (eqv n) xs ys
  | [], [], _, _, _ => lex_irrefl _
  | [], y :: ys, _, _, _ => by
    simp only [pyL, keyToksAll, ltvL]
    exact (lex_atom (by simp) _ _).trans (by decide)
  | x :: xs, [], _, _, _ => by
    simp only [pyL, keyToksAll, ltvL]
    exact (lex_atom (by simp) _ _).trans (by decide)
  | x :: xs, y :: ys, hx, hy, h => by
    rw [alkL, Bool.and_eq_true] at h
    rw [List.all_cons, Bool.and_eq_true] at hx hy
    simp only [pyL, ltvL]
    rw [dataLt_cons (alk_py n x y h.1), eqv_py x y n hx.1 hy.1, ih x y hx.1 hy.1 h.1, ltvL_py ih hx.2 hy.2 h.2]
theorem ltv_bl (a b : Bool) : dataLt (.bool a) (.bool b) = (!a && b) := by
  rw [dataLt_bool]
  cases a <;> cases b <;> decide
theorem ltv_py : ∀ (n : Nat) (x y : Dv), okv n x = true → okv n y = true → alk n x y = true → dataLt (py x) (py y) = ltv n x y
  | 0, x, y, hx, hy, h => by
    cases x <;> cases y <;> first
      | (simp [alk] at h; done)
      | (simp only [py, ltv]; exact dataLt_int _ _)
      | (simp only [py, ltv]; exact dataLt_str _ _)
      | (simp only [py, ltv]; exact ltv_bl _ _)
      | (simp only [py, ltv]; exact lex_irrefl _)
  | n + 1, x, y, hx, hy, h => by
    cases x <;> cases y <;> first
      | (simp [alk] at h; done)
      | (simp only [py, ltv]; exact dataLt_int _ _)
      | (simp only [py, ltv]; exact dataLt_str _ _)
      | (simp only [py, ltv]; exact ltv_bl _ _)
      | (simp only [alk] at h; simp only [py, ltv, dataLt_list]; exact ltvL_py (ltv_py n) (by simpa [okv] using hx) (by simpa [okv] using hy) h)
      | (simp only [alk] at h; simp only [py, ltv, dataLt_tuple]; exact ltvL_py (ltv_py n) (by simpa [okv] using hx) (by simpa [okv] using hy) h)
      | (simp only [py, ltv]; exact lex_irrefl _)

/-! ### sorting by putting in -/
section
variable {α : Type}
def putIn (le : α → α → Bool) (x : α) : List α → List α
  | [] => [x]
  | y :: r => if le x y = true then x :: y :: r else y :: putIn le x r
def putAll (le : α → α → Bool) : List α → List α
  | [] => []
  | x :: l => putIn le x (putAll le l)
theorem putIn_perm (le : α → α → Bool) (x : α) : ∀ l : List α, (putIn le x l).Perm (x :: l)
  | [] => .refl _
  | y :: r => by
    unfold putIn
    split
    · exact .refl _
    · exact ((putIn_perm le x r).cons y).trans (.swap x y r)
theorem putAll_perm (le : α → α → Bool) : ∀ l : List α, (putAll le l).Perm l
  | [] => .refl _
  | x :: l => (putIn_perm le x _).trans ((putAll_perm le l).cons x)
theorem putIn_sorted {le : α → α → Bool} (t : TotalLe le) (x : α) : ∀ {l : List α}, l.Pairwise (fun a b => le a b = true) → (putIn le x l).Pairwise (fun a b => le a b = true)
  | [], _ => List.pairwise_singleton _ _
  | y :: r, h => by
    rw [List.pairwise_cons] at h
    unfold putIn
    split
    · rename_i e
      refine List.pairwise_cons.mpr ⟨fun z hz => ?_, List.pairwise_cons.mpr h⟩
      rcases List.mem_cons.mp hz with q | q
      · rw [q]; exact e
      · exact t.trans _ _ _ e (h.1 z q)
    · rename_i e
      refine List.pairwise_cons.mpr ⟨fun z hz => ?_, putIn_sorted t x h.2⟩
      rcases List.mem_cons.mp ((putIn_perm le x r).mem_iff.mp hz) with q | q
      · rw [q]; exact (t.total y x).resolve_right e
      · exact h.1 z q
theorem putIn_filter {le : α → α → Bool} (t : TotalLe le) (x c : α) : ∀ l : List α, (putIn le x l).filter (sameRank le c) = (x :: l).filter (sameRank le c)
  | [] => rfl
  | y :: r => by
    unfold putIn
    split
    · rfl
    · rename_i e
      rw [List.filter_cons, putIn_filter t x c r]
      by_cases hy : sameRank le c y = true
      · have hx : ¬ sameRank le c x = true := fun hx => by
          unfold sameRank at hx hy
          rw [Bool.and_eq_true] at hx hy
          exact e (t.trans _ c _ hx.2 hy.1)
        rw [if_pos hy, List.filter_cons_of_neg hx, List.filter_cons_of_neg hx, List.filter_cons_of_pos hy]
      · rw [if_neg hy, List.filter_cons, List.filter_cons, List.filter_cons_of_neg hy]
theorem putAll_sorted {le : α → α → Bool} (t : TotalLe le) : ∀ l : List α, (putAll le l).Pairwise (fun a b => le a b = true)
  | [] => .nil
  | x :: l => putIn_sorted t x (putAll_sorted t l)
theorem putAll_filter {le : α → α → Bool} (t : TotalLe le) (c : α) : ∀ l : List α, (putAll le l).filter (sameRank le c) = l.filter (sameRank le c)
  | [] => rfl
  | x :: l => by
    rw [putAll, putIn_filter t, List.filter_cons, List.filter_cons, putAll_filter t c l]
theorem putAll_merge {le : α → α → Bool} (t : TotalLe le) (l : List α) : putAll le l = l.mergeSort le := sort_unique t (putAll_sorted t l) fun c => putAll_filter t c l
theorem putIn_congr {r s : α → α → Bool} {x : α} : ∀ {l : List α}, (∀ y ∈ l, r x y = s x y) → putIn r x l = putIn s x l
  | [], _ => rfl
  | y :: l, h => by
    unfold putIn
    rw [h y List.mem_cons_self, putIn_congr (l := l) fun z hz => h z (List.mem_cons_of_mem _ hz)]
theorem putAll_congr {r s : α → α → Bool} : ∀ {l : List α}, (∀ x ∈ l, ∀ y ∈ l, r x y = s x y) → putAll r l = putAll s l
  | [], _ => rfl
  | x :: l, h => by
    unfold putAll
    rw [putAll_congr (l := l) fun y hy z hz => h y (List.mem_cons_of_mem _ hy) z (List.mem_cons_of_mem _ hz)]
    exact putIn_congr fun y hy => h x List.mem_cons_self y (List.mem_cons_of_mem _ ((putAll_perm s l).mem_iff.mp hy))
end
def lev (x y : Dv) : Bool := !ltv 12 y x
/-- all alike, two by two -/
def alkA (l : List Dv) : Bool := l.all fun x => l.all fun y => alk 12 x y
def headTup : Dv → Bool
  | .tup (_ :: _) => true
  | _ => false
def plainKey : Dv → Bool
  | .bl _ => true
  | .int _ => true
  | .str _ => true
  | .lst _ => true
  | _ => false
def sortableB (l : List Dv) : Bool := l.all headTup || l.all plainKey
def sortG (l : List Dv) : R (List Dv) := if l.all (okv 12) = true ∧ alkA l = true ∧ sortableB l = true ∧ l.length ≤ lineP then .ok (putAll lev l) else .stuck
theorem alkA_of {l : List Dv} (h : alkA l = true) : ∀ x ∈ l, ∀ y ∈ l, alk 12 x y = true := fun x hx y hy => by
  unfold alkA at h
  rw [List.all_eq_true] at h
  exact List.all_eq_true.mp (h x hx) y hy
theorem alkA_all {l : List Dv} (h : alkA l = true) : AllAlike (l.map py) := fun d hd d' hd' => by
  obtain ⟨x, hx, rfl⟩ := List.mem_map.mp hd
  obtain ⟨y, hy, rfl⟩ := List.mem_map.mp hd'
  exact alk_py 12 x y (alkA_of h x hx y hy)
theorem sortableB_of {l : List Dv} (h : sortableB l = true) : Sortable (l.map py) := by
  unfold sortableB at h
  rw [Bool.or_eq_true] at h
  rcases h with h | h
  · refine .inl fun d hd => ?_
    obtain ⟨x, hx, rfl⟩ := List.mem_map.mp hd
    have z := List.all_eq_true.mp h x hx
    cases x with
    | tup l => cases l with
      | nil => cases z
      | cons a r => exact ⟨py a, pyL r, by simp [py, pyL]⟩
    | _ => cases z
  · refine .inr fun d hd => ?_
    obtain ⟨x, hx, rfl⟩ := List.mem_map.mp hd
    have z := List.all_eq_true.mp h x hx
    cases x <;> first
      | (refine ⟨?_, fun xs => ?_⟩ <;> simp [py] <;> done)
      | cases z
theorem putAll_data {l : List Dv} (h : l.all (okv 12) = true) (ha : alkA l = true) : l.mergeSort (dataLe false py) = putAll lev l := by
  rw [← putAll_merge (le := dataLe false py) (sortLe_total _ _ _) l]
  refine putAll_congr fun x hx y hy => ?_
  show (!dataLt (py y) (py x)) = _
  rw [ltv_py 12 y x (List.all_eq_true.mp h y hy) (List.all_eq_true.mp h x hx) (alkA_of ha y hy x hx)]
  rfl
end Py
namespace L2
open PySem PySem.Spec PyProof.Rows PySem.W PySem.Calls
mutual
theorem reads_lt {h : Heap} : ∀ {d : PyData} {v : Value} {as : List Addr}, Reads h v d as → ∀ a ∈ as, a < h.objs.size
  | _, _, _, .none => fun a h => by cases h
  | _, _, _, .bool _ => fun a h => by cases h
  | _, _, _, .int _ _ => fun a h => by cases h
  | _, _, _, .str _ _ => fun a h => by cases h
  | _, _, _, .list h1 h2 h3 h4 => fun a ha => by
    rcases List.mem_cons.mp ha with e | e
    · rw [e]; exact Heap.lt_size h1
    · exact readsAll_lt h4 a e
  | _, _, _, .tuple h1 h2 h3 h4 => fun a ha => readsAll_lt h4 a ha
  | _, _, _, .dict h1 h2 h3 h4 h5 => fun a ha => by
    rcases List.mem_append.mp ha with e | e
    · rcases List.mem_cons.mp e with e | e
      · rw [e]; exact Heap.lt_size h1
      · exact readsAll_lt h4 a e
    · exact readsAll_lt h5 a e
theorem readsAll_lt {h : Heap} : ∀ {ds : List PyData} {vs : List Value} {as : List Addr}, ReadsAll h vs ds as → ∀ a ∈ as, a < h.objs.size
  | _, _, _, .nil => fun a h => by cases h
  | _, _, _, .cons h1 h2 => fun a ha => by
    rcases List.mem_append.mp ha with e | e
    · exact reads_lt h1 a e
    · exact readsAll_lt h2 a e
end
/-- sorted(xs), the items alike data -/
def rSortG (K : PySem.W.Frag) : List V → Hp → VK → Prop := fun vs H Q => ∃ (a : Addr) (bs : List (V × PyData)), vs = [V.ref a] ∧ SqL K H a (bs.map (·.1)) ∧ (∀ b ∈ bs, Dp K H b.1 b.2) ∧ AllAlike (bs.map (·.2)) ∧ Sortable (bs.map (·.2)) ∧ (∀ b ∈ bs, b.2.depth ≤ 60) ∧
  ∀ p, H p = none → Q (.ref p) (upd H p (.lst ((bs.mergeSort (dataLe false (·.2))).map (·.1))))
theorem each_of_vals {β : Type} {f : β → V} : ∀ {bs : List β} {us : List Value}, Vals (bs.map f) us → EachIs (fun u b => RelV (f b) u) us bs
  | [], _, r => by
    cases r
    exact .nil
  | b :: bs, _, r => by
    rw [List.map_cons] at r
    cases r with
    | cons r1 r2 => exact .cons r1 (each_of_vals r2)
theorem vals_of_each {β : Type} {f : β → V} : ∀ {us : List Value} {bs : List β}, EachIs (fun u b => RelV (f b) u) us bs → Vals (bs.map f) us
  | _, _, .nil => .nil
  | _, _, .cons h t => .cons h (vals_of_each t)
theorem ents_refs : ∀ {L : List Ent} {xs : List (NestedKey × Addr × Value)}, Paired EntR L xs → Vals (L.map fun q => V.ref q.2.1) (xs.map fun x => Value.ref x.2.1)
  | _, _, .nil => .nil
  | _, _, .cons r t => .cons (by show Value.ref _ = Value.ref _; rw [r.2.1]) (ents_refs t)
section
variable {X : Cx}
theorem cr_sortG (hu : X.A.units + 64 < cLine) : CallR X (.builtin "sorted") (rSortG X.K) := by
  intro pins s σ H vs us Q I r h
  obtain ⟨a, bs, rfl, hs, hd, hal, hso, hdp, q⟩ := h
  obtain ⟨its, rv, pl, hz⟩ := I.list hs
  rw [Vals.ref1 r]
  have e := each_of_vals rv
  have er : EachIs (fun v b => ∃ as, Reads s.heap v b.2 as) its bs := (each_mem e).mono fun v b ⟨rb, hb⟩ => Dp.reads I b.2 b.1 v (hd b hb) rb
  have hL : bs.length ≤ sizeLine := by rw [List.length_map] at hz; exact hz
  refine sorted_data (enc := fun b : V × PyData => b.2) pl.isList e er hal hso hL (fun b hb => by have := hdp b hb; omega) fun out ho eo => ?_
  obtain ⟨ep, he'⟩ := PyProof.Rows.sortedAll_at s.heap its out.toArray
  have hlen : ((bs.mergeSort (dataLe false (·.2))).map (·.1)).length ≤ sizeLine := by rw [List.length_map, List.length_mergeSort]; exact hL
  exact ⟨.ref _, upd H (s.heap.objs.size + 1) (.lst ((bs.mergeSort (dataLe false (·.2))).map (·.1))), I.laid (t' := s.toks) (fun _ _ => PyProof.Rows.sortedAll_old) (Nat.le_succ _) ⟨hlen, out, ep, vals_of_each eo, he'⟩, rfl, q _ (I.hok.fresh (Nat.le_succ _))⟩
/-- sorted(d), the keys alike data -/
def rSortDic (X : Cx) : List V → Hp → VK → Prop := fun vs H Q => ∃ (a : Addr) (L : List Ent) (ds : List PyData), vs = [V.ref a] ∧ H a = some (DicO X.prog X.w a L) ∧ (∀ q ∈ L, EntK H q) ∧ DpAll X.K H (L.map fun q => V.ref q.2.1) ds ∧ AllAlike ds ∧ Sortable ds ∧ (∀ d ∈ ds, d.depth ≤ 60) ∧
  ∀ p, H p = none → Q (.ref p) (upd H p (.lst ((((L.map fun q => V.ref q.2.1).zip ds).mergeSort (dataLe false (·.2))).map (·.1))))
theorem dpAll_zip {K : PySem.W.Frag} {H : Hp} : ∀ {vs : List V} {ds : List PyData}, DpAll K H vs ds → (vs.zip ds).map (·.1) = vs ∧ (vs.zip ds).map (·.2) = ds ∧ ∀ b ∈ vs.zip ds, Dp K H b.1 b.2
  | _, _, .nil => ⟨rfl, rfl, fun b h => by cases h⟩
  | _, _, .cons h t => by
    obtain ⟨a, b, c⟩ := dpAll_zip t
    refine ⟨by rw [List.zip_cons_cons, List.map_cons, a], by rw [List.zip_cons_cons, List.map_cons, b], fun q hq => ?_⟩
    rw [List.zip_cons_cons] at hq
    rcases List.mem_cons.mp hq with e | e
    · rw [e]; exact h
    · exact c q e
theorem cr_sortDic (hc : X.calm = true) (hu : X.A.units + 64 < cLine) : CallR X (.builtin "sorted") (rSortDic X) := by
  intro pins s σ H vs us Q I r h
  obtain ⟨a, L, ds, rfl, ha, hk, hd, hal, hso, hdp, q⟩ := h
  rw [Vals.ref1 r]
  obtain ⟨z, hs, xs, pr, o, es, ep, ho, hx, hdt, he, _, hn⟩ := dicOf I ha hk
  have l1 : es.size = xs.length := size_of_entries he
  have l2 : L.length = xs.length := ents_len pr
  refine sortedK (kdl_raw hs hx hdt) (I.ok.hd hc) ho (by omega) fun h' tk acc' kp hlt it => ?_
  have ea : acc'.toList = xs.map fun x => Value.ref x.2.1 := by
    have hl : acc'.toList.length = xs.length := by rw [Array.length_toList, it.1]; exact l1
    apply List.ext_getElem?
    intro j
    rw [List.getElem?_map]
    cases hj : acc'.toList[j]? with
    | none =>
      have h1 := List.getElem?_eq_none_iff.mp hj
      rw [List.getElem?_eq_none (by omega)]
      all_goals rfl
    | some v =>
      obtain ⟨en, hen, hv⟩ := it.2 j v (by rw [← Array.getElem?_toList]; exact hj)
      have qe := entry_at he j
      rw [hen] at qe
      cases hb : xs[j]? with
      | none =>
        rw [hb] at qe
        exact nomatch (show some en = none from qe)
      | some b =>
        rw [hb] at qe
        have e2 : en = entryOfKey (nestedKind X.prog X.w) b := Option.some.inj qe
        rw [hv, e2]
        all_goals rfl
  have rvs : Vals (L.map fun q => V.ref q.2.1) acc'.toList := by
    rw [ea]
    exact ents_refs pr
  obtain ⟨z1, z2, z3⟩ := dpAll_zip hd
  generalize hbs : (L.map fun q => V.ref q.2.1).zip ds = bs at z1 z2 z3 q
  rw [← z1] at rvs
  rw [← z2] at hal hso
  have I2 : Inv X pins σ H { s with heap := h', toks := tk } := I.kept (t' := tk) kp
  have e := each_of_vals rvs
  have hoL : (h'.push (seqObj "list" acc'.toList.toArray 0)).get? h'.objs.size = some (seqObj "list" acc'.toList.toArray 0) := Heap.get?_push_size _ rfl
  have notin : ∀ (d : PyData) (v : Value) (as : List Addr), Reads h' v d as → h'.objs.size ∉ as := fun d v as rr hm => absurd (reads_lt rr _ hm) (Nat.lt_irrefl _)
  have er : EachIs (fun v b => ∃ as, Reads (h'.push (seqObj "list" acc'.toList.toArray 0)) v b.2 as ∧ h'.objs.size ∉ as) acc'.toList bs := (each_mem e).mono fun v b ⟨rb, hb⟩ => by
    obtain ⟨as, rr⟩ := Dp.reads I2 b.2 b.1 v (z3 b hb) rb
    exact ⟨as, PyProof.Rows.Reads.keeps (fun _ _ => Heap.get?_push_of_some _) rr, notin _ _ _ rr⟩
  have hL : bs.length ≤ sizeLine := by
    have z := congrArg List.length z1
    rw [List.length_map, List.length_map] at z
    omega
  have hdp2 : ∀ b ∈ bs, b.2.depth ≤ 60 := fun b hb => hdp _ (by rw [← z2]; exact List.mem_map.mpr ⟨b, hb, rfl⟩)
  refine list_sort_data (s := { s with heap := h'.push (seqObj "list" acc'.toList.toArray 0), toks := tk }) (enc := fun b : V × PyData => b.2) hoL e er hal hso hL (fun b hb => by have := hdp2 b hb; simp only [Around.in1_units]; omega) fun out ho' eo => ?_
  obtain ⟨c, hc'⟩ := sortedHeap_at (vs := acc'.toList) (out := out.toArray) hoL
  have hlen : ((bs.mergeSort (dataLe false (·.2))).map (·.1)).length ≤ sizeLine := by rw [List.length_map, List.length_mergeSort]; exact hL
  have keep3 : ∀ b u, h'.get? b = some u → (sortedHeap (h'.push (seqObj "list" acc'.toList.toArray 0)) h'.objs.size acc'.toList out.toArray).get? b = some u := fun b u e => by
    have hl := Heap.lt_size e
    rw [sortedHeap_old (Nat.ne_of_lt hl) (by rw [size_push']; exact Nat.lt_succ_of_lt hl)]
    exact Heap.get?_push_of_some _ e
  refine ⟨.ref h'.objs.size, upd H h'.objs.size (.lst ((bs.mergeSort (dataLe false (·.2))).map (·.1))), ?_, rfl, q _ (I2.hok.fresh (Nat.le_refl _))⟩
  exact I2.laid (t' := tk) keep3 (Nat.le_refl _) ⟨hlen, out, c, vals_of_each eo, hc'⟩
end
end L2
namespace Py
open PySem PySem.Spec PyProof.Rows L2 PySem.W
section
variable {S : Sx} {k : Nat} {f : Fm} {W : WX} {σ : Sg} {F H F1 H1 F0 H0 : Hp} {env : En} {Q : VK} {X : Cx} {e a b : Expr} {pos apos px p1 : Pos} {D : Ends} {x : Str} {ma mb : En → R Dv}
/-! ### sorted of alike data -/
theorem RpL.perm_zip : ∀ {vs : List V} {ds : List Dv}, RpL S F vs ds → (vs.zip ds).map (·.1) = vs ∧ (vs.zip ds).map (·.2) = ds ∧ ∀ q ∈ vs.zip ds, Rp S F q.1 q.2
  | _, _, .nil => ⟨rfl, rfl, fun q h => by cases h⟩
  | _, _, .cons r t => by
    obtain ⟨a, b, c⟩ := RpL.perm_zip t
    refine ⟨by rw [List.zip_cons_cons, List.map_cons, a], by rw [List.zip_cons_cons, List.map_cons, b], fun q hq => ?_⟩
    rw [List.zip_cons_cons] at hq
    rcases List.mem_cons.mp hq with e | e
    · rw [e]; exact r
    · exact c q e
theorem RpL.of_all : ∀ {l : List (V × Dv)}, (∀ q ∈ l, Rp S F q.1 q.2) → RpL S F (l.map (·.1)) (l.map (·.2))
  | [], _ => .nil
  | q :: l, h => .cons (h q List.mem_cons_self) (RpL.of_all fun z hz => h z (List.mem_cons_of_mem _ hz))
theorem sortG_ok {l r : List Dv} (h : sortG l = .ok r) : l.all (okv 12) = true ∧ alkA l = true ∧ sortableB l = true ∧ l.length ≤ lineP ∧ r = putAll lev l := by
  unfold sortG at h
  split at h
  · rename_i c
    cases h
    exact ⟨c.1, c.2.1, c.2.2.1, c.2.2.2, rfl⟩
  · cases h
theorem sortG_noerr {l : List Dv} (n : Nat) : sortG l ≠ .err n := fun h => by
  unfold sortG at h
  split at h <;> cases h
theorem pyL_map (l : List Dv) : pyL l = l.map py := by
  induction l with
  | nil => rfl
  | cons d l ih => rw [pyL, ih]; rfl
/-- the model's sorted list, by the data -/
theorem sorted_bs {vs : List V} {l : List Dv} (r : RpL S F vs l) (h1 : l.all (okv 12) = true) (h2 : alkA l = true) : RpL S F ((((vs.zip l).map fun q => (q.1, py q.2)).mergeSort (dataLe false (·.2))).map (·.1)) (putAll lev l) := by
  obtain ⟨a, b, c⟩ := r.perm_zip
  have e1 : ((vs.zip l).map fun q => (q.1, py q.2)).mergeSort (dataLe false (·.2)) = ((vs.zip l).mergeSort (dataLe false fun q => py q.2)).map fun q => (q.1, py q.2) :=
    (sort_maps (fun q : V × Dv => (q.1, py q.2)) fun _ _ _ _ => rfl).symm
  have e2 : putAll lev l = ((vs.zip l).mergeSort (dataLe false fun q => py q.2)).map (·.2) := by
    rw [← putAll_data h1 h2, ← b, ← sort_maps (r := dataLe false fun q : V × Dv => py q.2) (fun q : V × Dv => q.2) fun _ _ _ _ => rfl, b]
  rw [e1, e2, List.map_map]
  exact RpL.of_all fun q hq => c q ((List.mergeSort_perm _ _).mem_iff.mp hq)
def sortGD (x : Dv) : R (List Dv) := match x with
  | .lst l => sortG l
  | _ => .stuck
theorem un_sortG : Un1 S k f (gL S) (fun X => rSortG X.K) sortGD := by
  intro X W σ F H v x Q fit ex rx hp
  cases x with
  | lst l =>
    replace hp : Post S W σ F H (gL S) (sortG l) Q := hp
    cases q1 : sortG l with
    | stuck => rw [q1] at hp; exact hp.elim
    | err n => exact absurd q1 (sortG_noerr n)
    | ok r =>
      rw [q1] at hp
      obtain ⟨h1, h2, h3, h4, rfl⟩ := sortG_ok q1
      obtain ⟨t, vs, rfl, ht, rl⟩ := rx.lstAt ex
      obtain ⟨z1, z2, z3⟩ := rl.perm_zip
      refine ⟨t, (vs.zip l).map fun q => (q.1, py q.2), rfl, ?_, fun b hb => ?_, ?_, ?_, fun b hb => ?_, fun p hp' => ?_⟩
      · rw [List.map_map]
        show SqL _ _ _ ((vs.zip l).map (·.1))
        rw [z1]
        exact SqL.of ht
      · obtain ⟨q, hq, rfl⟩ := List.mem_map.mp hb
        have m : q.2 ∈ l := by rw [← z2]; exact List.mem_map.mpr ⟨q, hq, rfl⟩
        exact (z3 q hq).dp ex 12 (List.all_eq_true.mp h1 _ m)
      · rw [List.map_map]
        show AllAlike ((vs.zip l).map (py ∘ Prod.snd))
        rw [← List.map_map, z2]
        exact alkA_all h2
      · rw [List.map_map]
        show Sortable ((vs.zip l).map (py ∘ Prod.snd))
        rw [← List.map_map, z2]
        exact sortableB_of h3
      · obtain ⟨q, hq, rfl⟩ := List.mem_map.mp hb
        have m : q.2 ∈ l := by rw [← z2]; exact List.mem_map.mpr ⟨q, hq, rfl⟩
        exact Nat.le_trans (okv_py q.2 12 (List.all_eq_true.mp h1 _ m)).2 (by decide)
      · exact hp (.ref p) F _ (Grow.mine ex hp') ⟨p, _, rfl, hp', Evl.fresh_back ex hp', upd_same, sorted_bs rl h1 h2⟩
  | _ => exact hp.elim
/-- sorted(xs): alike data; else tuples of ints, the first one empty -/
def sortAll (x : Dv) : R (List Dv) := match x with
  | .lst l => if sortableB l = true then sortG l else sortAnyD x
  | _ => .stuck
def rSortH (X : Cx) : List V → Hp → VK → Prop := fun vs H Q => rSortB X vs H Q ∨ (X.A.units + 64 < cLine ∧ rSortG X.K vs H Q)
theorem cr_sortH {X : Cx} : CallR X (.builtin "sorted") (rSortH X) := fun pins s σ H vs us Q I r h => by
  rcases h with h | ⟨hu, h⟩
  · exact cr_sortB pins s σ H vs us Q I r h
  · exact cr_sortG hu pins s σ H vs us Q I r h
theorem un_sortH : Un1 S k f (gL S) rSortH sortAll := by
  intro X W σ F H v x Q fit ex rx hp
  cases x with
  | lst l =>
    unfold sortAll at hp
    dsimp only at hp
    split at hp
    · exact .inr ⟨fit.room.units, un_sortG X W σ F H v (.lst l) Q fit ex rx hp⟩
    · exact .inl (un_sortB X W σ F H v (.lst l) Q fit ex rx hp)
  | _ => exact hp.elim
theorem jl_sortAll {p : Pos} (hn : S.mg "sorted" = none) (ja : JB S k f a ma) (h : plainE a = true := by rfl) (hg : glB f.sc "sorted" = true := by decide +kernel) : JL S k f (.Call (.Name "sorted" p) [a] [] pos) (fun env => (ma env).bind sortAll) :=
  j_call1 anti_L (fun X _ => cr_sortH) un_sortH boot_sorted hg hn ja h

/-! ### dicts -/
mutual
theorem Rp.nk (ex : Ext F H) : ∀ {v : V} {d : Dv} (n : Nat), hashB n d = true → Rp S F v d → NkV H v (nkD d) ∧ (nkD d).depth ≤ n
  | _, _, n, _, .non => ⟨.non, Nat.zero_le _⟩
  | _, _, n, _, .bl b => ⟨.bl b, Nat.zero_le _⟩
  | _, _, n, _, .int i => ⟨.int i, Nat.zero_le _⟩
  | _, _, n, _, .str x => ⟨.str x, Nat.zero_le _⟩
  | _, _, 0, h, .tup _ _ => by simp [hashB] at h
  | _, _, n + 1, h, .tup a b => by
    obtain ⟨c, d⟩ := RpL.nk ex n (by simpa [hashB] using h) b
    exact ⟨.tup (ex _ _ a) c, Nat.succ_le_succ d⟩
  | _, _, n, h, .lst _ _ => by cases n <;> simp [hashB] at h
  | _, _, n, h, .fn _ => by cases n <;> simp [hashB] at h
  | _, _, n, h, .ins _ _ _ _ => by cases n <;> simp [hashB] at h
theorem RpL.nk (ex : Ext F H) : ∀ {vs : List V} {ds : List Dv} (n : Nat), ds.all (hashB n) = true → RpL S F vs ds → NkVs H vs (nkDs ds) ∧ NestedKey.depthAll (nkDs ds) ≤ n
  | _, _, n, _, .nil => ⟨.nil, Nat.zero_le _⟩
  | _, _, n, h, .cons a b => by
    rw [List.all_cons, Bool.and_eq_true] at h
    obtain ⟨c, d⟩ := Rp.nk ex n h.1 a
    obtain ⟨e, g⟩ := RpL.nk ex n h.2 b
    exact ⟨.cons c e, Nat.max_le.mpr ⟨d, g⟩⟩
end
theorem EntL.keys (ex : Ext F H) : ∀ {L : List Ent} {l : List (Dv × Dv)}, EntL S F L l → ∀ q ∈ L, EntK H q
  | _, _, .nil => fun q h => by cases h
  | _, _, .cons h1 h2 _ t => fun q hq => by
    rcases List.mem_cons.mp hq with e | e
    · rw [e]
      exact Rp.nk ex 8 h1 h2
    · exact EntL.keys ex t q e
def headIs : Dv → Bool
  | .tup _ => true
  | _ => false
theorem hash_okv : ∀ (n : Nat) (d : Dv), hashB n d = true → okv n d = true
  | 0, d, h => by cases d <;> simp_all [hashB, okv]
  | n + 1, d, h => by
    cases d <;> first
      | (simp [hashB] at h; done)
      | (simp only [hashB] at h; simp only [okv]; exact List.all_eq_true.mpr fun x hx => hash_okv n x (List.all_eq_true.mp h x hx))
      | rfl
mutual
theorem nk_eqv : ∀ (x y : Dv) (n : Nat), hashB n x = true → hashB n y = true → NestedKey.beq (nkD x) (nkD y) = eqv n x y
  | .tup l, y, n, hx, hy => by
    cases n with
    | zero => simp [hashB] at hx
    | succ n =>
      cases y with
      | tup l' =>
        simp only [nkD, NestedKey.beq, eqv]
        exact nks_eqv l l' n (by simpa [hashB] using hx) (by simpa [hashB] using hy)
      | bl b => cases b <;> simp [nkD, NestedKey.beq, eqv]
      | _ => first
        | (simp [nkD, NestedKey.beq, eqv]; done)
        | (simp [hashB] at hy; done)
  | .non, y, n, hx, hy => by cases n <;> cases y <;> first | (simp [nkD, NestedKey.beq, eqv]; done) | (simp [hashB] at hy; done)
  | .bl b, y, n, hx, hy => by
    cases n <;> cases y <;> first | (simp [nkD, NestedKey.beq, eqv]; done) | (simp [hashB] at hy; done) | (rename_i c; cases b <;> cases c <;> simp [nkD, NestedKey.beq, eqv] <;> done) | (rename_i c; cases b <;> simp [nkD, NestedKey.beq, eqv] <;> (first | done | (rw [Bool.eq_iff_iff]; simp <;> omega)))
  | .int i, y, n, hx, hy => by
    cases n <;> cases y <;> first | (simp [nkD, NestedKey.beq, eqv]; done) | (simp [hashB] at hy; done) | (simp only [nkD, NestedKey.beq, eqv]; rw [Bool.eq_iff_iff]; simp)
  | .str i, y, n, hx, hy => by
    cases n <;> cases y <;> first | (simp [nkD, NestedKey.beq, eqv]; done) | (simp [hashB] at hy; done) | (simp only [nkD, NestedKey.beq, eqv]; rw [Bool.eq_iff_iff]; simp)
  | .lst _, y, n, hx, hy => by cases n <;> simp [hashB] at hx
  | .fn _, y, n, hx, hy => by cases n <;> simp [hashB] at hx
  | .ins _ _, y, n, hx, hy => by cases n <;> simp [hashB] at hx
theorem nks_eqv : ∀ (x y : List Dv) (n : Nat), x.all (hashB n) = true → y.all (hashB n) = true → NestedKey.beqAll (nkDs x) (nkDs y) = eqvL (eqv n) x y
  | [], [], _, _, _ => rfl
  | [], _ :: _, _, _, _ => rfl
  | _ :: _, [], _, _, _ => rfl
  | x :: xs, y :: ys, n, hx, hy => by
    rw [List.all_cons, Bool.and_eq_true] at hx hy
    simp only [nkDs, NestedKey.beqAll, eqvL]
    rw [nk_eqv x y n hx.1 hy.1, nks_eqv xs ys n hx.2 hy.2]
end
def dAt (l : List (Dv × Dv)) (d : Dv) : Option Dv := (l.find? fun q => eqv 8 q.1 d).map (·.2)
def dPut (l : List (Dv × Dv)) (d v : Dv) : List (Dv × Dv) := if (dAt l d).isSome = true then l.map (fun q => if eqv 8 q.1 d = true then (q.1, v) else q) else l ++ [(d, v)]
theorem nk_dec {x y : Dv} (hx : hashB 8 x = true) (hy : hashB 8 y = true) : decide (nkD x = nkD y) = eqv 8 x y := by rw [NestedKey.decide_eq]; exact nk_eqv x y 8 hx hy
theorem EntL.at {e0 : Dv} (hd : hashB 8 e0 = true) : ∀ {L : List Ent} {l : List (Dv × Dv)}, EntL S F L l → (entAt L (nkD e0) = none ∧ dAt l e0 = none) ∨ ∃ v d, entAt L (nkD e0) = some v ∧ dAt l e0 = some d ∧ Rp S F v d
  | _, _, .nil => .inl ⟨rfl, rfl⟩
  | _, _, @EntL.cons _ _ a v k d L l h1 h2 h3 t => by
    have e := nk_dec h1 hd
    cases q : eqv 8 k e0 with
    | true =>
      rw [q] at e
      refine .inr ⟨v, d, ?_, ?_, h3⟩
      · unfold entAt
        rw [List.find?_cons, e]
        rfl
      · unfold dAt
        rw [List.find?_cons, q]
        rfl
    | false =>
      rw [q] at e
      rcases EntL.at hd t with ⟨g1, g2⟩ | ⟨v', d', g1, g2, g3⟩
      · refine .inl ⟨?_, ?_⟩
        · unfold entAt at g1 ⊢
          rw [List.find?_cons, e]
          exact g1
        · unfold dAt at g2 ⊢
          rw [List.find?_cons, q]
          exact g2
      · refine .inr ⟨v', d', ?_, ?_, g3⟩
        · unfold entAt at g1 ⊢
          rw [List.find?_cons, e]
          exact g1
        · unfold dAt at g2 ⊢
          rw [List.find?_cons, q]
          exact g2
theorem EntL.snoc {L : List Ent} {l : List (Dv × Dv)} (h : EntL S F L l) {b : Addr} {v : V} {d0 d : Dv} (h1 : hashB 8 d0 = true) (h2 : Rp S F (.ref b) d0) (h3 : Rp S F v d) : EntL S F (L ++ [(nkD d0, b, v)]) (l ++ [(d0, d)]) := by
  induction h with
  | nil => exact .cons h1 h2 h3 .nil
  | cons a b c _ ih => exact .cons a b c ih
theorem EntL.over {d0 d : Dv} {v : V} (h1 : hashB 8 d0 = true) (h3 : Rp S F v d) : ∀ {L : List Ent} {l : List (Dv × Dv)}, EntL S F L l → EntL S F (L.map fun q => if q.1 = nkD d0 then (q.1, q.2.1, v) else q) (l.map fun q => if eqv 8 q.1 d0 = true then (q.1, d) else q)
  | _, _, .nil => .nil
  | _, _, @EntL.cons _ _ a v' k d' L l g1 g2 g3 t => by
    have e := nk_dec g1 h1
    rw [List.map_cons, List.map_cons]
    cases q : eqv 8 k d0 with
    | true =>
      rw [q] at e
      rw [if_pos (of_decide_eq_true e), if_pos rfl]
      exact .cons g1 g2 h3 (EntL.over h1 h3 t)
    | false =>
      rw [q] at e
      rw [if_neg (of_decide_eq_false e), if_neg Bool.false_ne_true]
      exact .cons g1 g2 g3 (EntL.over h1 h3 t)
theorem EntL.put {L : List Ent} {l : List (Dv × Dv)} (h : EntL S F L l) {b : Addr} {v : V} {d0 d : Dv} (h1 : hashB 8 d0 = true) (h2 : Rp S F (.ref b) d0) (h3 : Rp S F v d) : EntL S F (entPut L (nkD d0) b v) (dPut l d0 d) := by
  unfold entPut dPut
  rcases h.at h1 with ⟨g1, g2⟩ | ⟨_, _, g1, g2, _⟩
  · rw [g1, g2]
    exact h.snoc h1 h2 h3
  · rw [g1, g2]
    exact EntL.over h1 h3 h
theorem EntL.length {L : List Ent} {l : List (Dv × Dv)} (h : EntL S F L l) : L.length = l.length := by
  induction h with
  | nil => rfl
  | cons _ _ _ _ ih => rw [List.length_cons, List.length_cons, ih]
theorem EntL.refs {L : List Ent} {l : List (Dv × Dv)} (h : EntL S F L l) : RpL S F (L.map fun q => V.ref q.2.1) (l.map (·.1)) := by
  induction h with
  | nil => exact .nil
  | cons _ h2 _ _ ih => exact .cons h2 ih
theorem EnvOk.dic (eo : EnvOk S F0 H0 F H σ env) {i : Nat} {l : List (Dv × Dv)} (h : env[i]? = some (some (.dic l))) :
    ∃ p L, σ[i]? = some (some (.ref p)) ∧ H0 p = none ∧ F p = none ∧ H p = some (DicO S.P S.w p L) ∧ EntL S F L l := by
  obtain ⟨v, q, p, L, rfl, a, b, c, d⟩ := eo.at h
  exact ⟨p, L, q, a, b, c, d⟩
/-- the private dict of slot i is written -/
theorem EnvOk.writeD (e : EnvOk S F0 H0 F H σ env) {i : Nat} {p : Addr} {l l' : List (Dv × Dv)} {L' : List Ent} (h : env[i]? = some (some (.dic l))) (hσ : σ[i]? = some (some (.ref p)))
    (r : EntL S F L' l') : EnvOk S F0 H0 F (upd H p (DicO S.P S.w p L')) σ (env.set i (some (.dic l'))) := by
  obtain ⟨q, L, hq, h0, fp, hp, _⟩ := e.dic h
  have e2 : q = p := by
    rw [hσ] at hq
    cases hq
    rfl
  subst e2
  have fr : ∀ a, F a ≠ none → a ≠ q := fun a ha z => ha (z ▸ fp)
  refine ⟨⟨e.g.ff, fun a u n ha => ?_, fun a ha => ?_, fun a u ha => ?_, e.g.fz⟩, by rw [List.length_set, e.len], fun j => ?_, e.dis' rfl h⟩
  · rw [upd_ne fun z => by rw [z, h0] at ha; cases ha]
    exact e.g.hh a u n ha
  · rw [upd_ne fun z => ha (by rw [z]; exact h0)]
    exact e.g.he a ha
  · rw [upd_ne (fr a (by rw [ha]; intro z; cases z))]
    exact e.g.fh a u ha
  · by_cases hj : i = j
    · subst hj
      rw [List.getElem?_set_self (List.getElem?_eq_some_iff.mp h).1, hσ]
      exact ⟨q, L', rfl, h0, fp, upd_same, r⟩
    · rw [List.getElem?_set_ne hj]
      exact e.others rfl h hσ hj
/-- a private thing, new to all slots, is put -/
theorem EnvOk.putPv (e : EnvOk S F0 H0 F H σ env) (i : Nat) {p : Addr} {s : Sl} (ps : s.pv = true) (ok : SlotOk S H0 F H (some (.ref p)) (some s))
    (new : ∀ (j : Nat) (m : Sl), m.pv = true → j ≠ i → env[j]? = some (some m) → σ[j]? ≠ some (some (.ref p))) : EnvOk S F0 H0 F H (σ.set i (some (.ref p))) (env.set i (some s)) := by
  refine ⟨e.g, by rw [List.length_set, List.length_set, e.len], fun j => ?_, fun j k l' m q hl hm h1 h2 h3 h4 => ?_⟩
  · by_cases hj : i = j
    · subst hj
      by_cases hi : i < env.length
      · rw [List.getElem?_set_self hi, List.getElem?_set_self (by rw [e.len]; exact hi)]
        exact ok
      · rw [List.getElem?_eq_none (l := env.set i _) (by rw [List.length_set]; omega)]
        cases (σ.set i (some (.ref p)))[i]?.getD none <;> trivial
    · rw [List.getElem?_set_ne hj, List.getElem?_set_ne hj]
      exact e.slot j
  · have li : ∀ {k : Nat} {m : Sl}, (env.set i (some s))[k]? = some (some m) → i = k → i < σ.length := fun h z => by
      subst z
      have z := (List.getElem?_eq_some_iff.mp h).1
      rw [List.length_set] at z
      rw [e.len]
      exact z
    rcases En.set_at h1 with ⟨n1, _⟩ | ⟨n1, g1⟩
    · rcases En.set_at h2 with ⟨n2, _⟩ | ⟨n2, g2⟩
      · exact n1.symm.trans n2
      · rw [List.getElem?_set_ne n2] at h4
        have hi := li h1 n1
        subst n1
        rw [List.getElem?_set_self hi] at h3
        cases h3
        exact absurd h4 (new k m hm (Ne.symm n2) g2)
    · rw [List.getElem?_set_ne n1] at h3
      rcases En.set_at h2 with ⟨n2, _⟩ | ⟨n2, g2⟩
      · have hi := li h2 n2
        subst n2
        rw [List.getElem?_set_self hi] at h4
        cases h4
        exact absurd h3 (new j l' hl (Ne.symm n1) g1)
      · rw [List.getElem?_set_ne n2] at h4
        exact e.dis j k l' m q hl hm g1 g2 h3 h4
/-- x = {} -/
def newDic (i : Nat) : En → Out := fun env => .nx (env.set i (some (.dic [])))
theorem js_dicNew {p2 : Pos} (i : Nat) (h : locA f i x = true := by decide +kernel) (hs : ∀ env, swapsWith (.Dict [] [] p2) (some (.Name x px)) pos.line env = pure false := by intro _; rfl) :
    JS S k f (.Assign [.Name x px] (.Dict [] [] p2) pos) (newDic i) := js_ps fun X W fit tk => by
  obtain ⟨h1, h2, h3, h4⟩ := locX fit h
  refine ⟨_, ps_set h1 h2 h3 pe_dicNew (hs X.env) h4, fun F0 H0 F H σ env D eo hp p hpn => ?_⟩
  have fp : F p = none := Evl.fresh_back eo.g.fh hpn
  have h0 : H0 p = none := by
    cases z : H0 p with
    | none => rfl
    | some o => exact absurd hpn (eo.g.he p (by rw [z]; intro w; cases w))
  have eo1 := eo.grow (Grow.mine (o := DicO X.prog X.w p []) eo.g.fh hpn)
  refine hp _ F _ (Evl.Ex.refl F) (eo1.putPv i rfl ⟨p, [], rfl, h0, fp, ?_, .nil⟩ fun j m hm _ h => eo.new hpn j m hm h)
  rw [upd_same, fit.hP, fit.hw]
/-- x[a] = e, x a dict -/
def rSetD (X : Cx) : V → V → V → Hp → (Hp → Prop) → Prop := fun o i v H Q => ∃ (p : Addr) (L : List Ent) (kk : NestedKey) (b : Addr), o = .ref p ∧ i = .ref b ∧ H p = some (DicO X.prog X.w p L) ∧ (∀ q ∈ L, EntK H q) ∧ EntK H (kk, b, .non) ∧ L.length < sizeLine ∧ Q (upd H p (DicO X.prog X.w p (entPut L kk b v)))
theorem set_dic (hu : X.A.units + 64 < cLine) : PSet X (rSetD X) := by
  intro pins s σ H o i v ov iv u Q I ro ri rv h
  obtain ⟨p, L, kk, b, rfl, rfl, hp, hk, hb, hl, q⟩ := h
  cases ro
  cases ri
  exact dicSet (by simp only [Around.in1_units]; omega) I hp hk hb rv hl fun s' I' => ⟨_, I', q⟩
def setDO (i : Nat) (j d : Dv) (env : En) : Out := match env[i]? with
  | some (some (.dic l)) => if hashB 8 j = true ∧ headIs j = true ∧ l.length < lineP then .nx (env.set i (some (.dic (dPut l j d)))) else .stuck
  | _ => .stuck
def isDic (i : Nat) (env : En) : Bool := match env[i]? with
  | some (some (.dic _)) => true
  | _ => false
theorem isDic_of {i : Nat} (h : isDic i env = true) : ∃ l, env[i]? = some (some (.dic l)) := by
  unfold isDic at h
  split at h
  · exact ⟨_, by assumption⟩
  · cases h
theorem setDO_go {i : Nat} {j d : Dv} {e : En} (fit : Fit S k f X) (eo : EnvOk S F0 H0 F H σ env) {u v : V} (ru : Rp S F u j) (rv : Rp S F v d) (he : setDO i j d env = .nx e) {p : Addr} (hσ : σ[i]? = some (some (.ref p))) {P : Hp → Prop} (hp : ∀ H', EnvOk S F0 H0 F H' σ e → P H') : rSetD X (.ref p) u v H P := by
  unfold setDO at he
  split at he
  · rename_i l hl
    split at he
    · rename_i c
      cases he
      obtain ⟨q, L, hσ', h0, fq, hq, rl⟩ := eo.dic hl
      rw [hσ] at hσ'
      cases hσ'
      obtain ⟨b, rfl⟩ : ∃ b, u = .ref b := by
        cases ru with
        | @tup b _ _ _ _ => exact ⟨b, rfl⟩
        | _ => exact absurd c.2.1 (by simp [headIs])
      refine ⟨p, L, nkD j, b, rfl, rfl, by rw [fit.hP, fit.hw]; exact hq, rl.keys eo.g.fh, Rp.nk eo.g.fh 8 c.1 ru, by rw [rl.length]; exact lineP_lt c.2.2, ?_⟩
      rw [fit.hP, fit.hw]
      exact hp _ (eo.writeD hl hσ (rl.put c.1 ru rv))
    · cases he
  · cases he
theorem js_dicSet {m mj : En → R Dv} (i : Nat) (je : JD S k f e m) (jj : JD S k f a mj) (hv : visA f i x = true := by decide +kernel) (hs : ∀ env, swapsWithSole [.Subscript (.Name x px) a apos] e pos.line env = pure false := by intro _; rfl)
    (hw : ∀ env, swappedStores [.Subscript (.Name x px) a apos] e env = pure none := by intro _; rfl)
    (ha : ∀ env v, assign (.Subscript (.Name x px) a apos) env v = (do
      let ov ← holding [v] (eval (.Name x px) env)
      let iv ← holding [v, ov] (eval a env)
      standAt apos
      holding [v, ov, iv] (setItem ov iv v)
      release [v, ov, iv] []) := by intro _ _; rfl) :
    JS S k f (.Assign [.Subscript (.Name x px) a apos] e pos) (fun env => (m env).out fun q => if isDic i env = true then (mj env).out fun j => setDO i j q env else .stuck) := js_ps fun X W fit tk =>
  ⟨_, ps_asg pe_rd (pg_sub (pe_v fit hv) pe_rd (set_dic fit.room.units) (ha X.env)) (hs X.env) (hw X.env) rfl, fun F0 H0 F H σ env D eo hp => je.goS fit tk eo hp fun q v F1 H1 g1 r1 eo1 hp1 => by
    split at hp1
    · rename_i ho
      obtain ⟨l, hl⟩ := isDic_of ho
      obtain ⟨p, L, hσ, _⟩ := eo1.dic hl
      refine ⟨.ref p, hσ, jj.goS fit tk eo1 hp1 fun j u F2 H2 g2 ru eo2 hp2 => ?_⟩
      cases q1 : setDO i j q env with
      | nx e' =>
        rw [q1] at hp2
        exact setDO_go fit eo2 ru (r1.mono g2.ff) q1 hσ fun H3 eo3 => hp2 σ F2 H3 (Evl.Ex.refl F2) eo3
      | stuck => rw [q1] at hp2; exact hp2.elim
      | _ =>
        unfold setDO at q1
        rw [hl] at q1
        dsimp only at q1
        split at q1 <;> cases q1
    · exact hp1.elim⟩
/-- sorted(x), x a dict -/
def sortDicD (i : Nat) (env : En) : R (List Dv) := match env[i]? with
  | some (some (.dic l)) => sortG (l.map (·.1))
  | _ => .stuck
theorem jl_sortedDic {p : Pos} (i : Nat) (hn : S.mg "sorted" = none) (hv : visA f i x = true := by decide +kernel) (hg : glB f.sc "sorted" = true := by decide +kernel) : JL S k f (.Call (.Name "sorted" p) [.Name x px] [] pos) (sortDicD i) := j_pe fun X W fit tk =>
  ⟨_, pe_callB (cr_sortDic fit.calm fit.room.units) (glB_of fit hg).1 (by rw [fit.hm]; exact hn) boot_sorted (pa_cons (pe_v fit hv) pa_nil (by rfl)) (glB_of fit hg).2.2 (glB_of fit hg).2.1 (by rfl) (by rfl), fun F0 H0 F H σ env Q eo hp => by
    unfold sortDicD at hp
    split at hp
    · rename_i l hl
      obtain ⟨p, L, hσ, h0, fp, hpp, rl⟩ := eo.dic hl
      cases q1 : sortG (l.map (·.1)) with
      | stuck => rw [q1] at hp; exact hp.elim
      | err n => exact absurd q1 (sortG_noerr n)
      | ok r =>
        rw [q1] at hp
        obtain ⟨h1, h2, h3, h4, rfl⟩ := sortG_ok q1
        have rr := rl.refs
        obtain ⟨z1, z2, z3⟩ := rr.perm_zip
        refine ⟨.ref p, hσ, p, L, (l.map (·.1)).map py, rfl, by rw [fit.hP, fit.hw]; exact hpp, rl.keys eo.g.fh, ?_, alkA_all h2, sortableB_of h3, fun d hd => ?_, fun p' hp' => ?_⟩
        · have z := RpL.dp (K := X.K) eo.g.fh 12 h1 rr
          rw [pyL_map] at z
          exact z
        · obtain ⟨x, hx, rfl⟩ := List.mem_map.mp hd
          exact Nat.le_trans (okv_py x 12 (List.all_eq_true.mp h1 _ hx)).2 (by decide)
        · have z := sorted_bs rr h1 h2
          rw [show (L.map fun q => V.ref q.2.1).zip ((l.map (·.1)).map py) = ((L.map fun q => V.ref q.2.1).zip (l.map (·.1))).map fun q => (q.1, py q.2) from by rw [List.zip_map_right]; rfl]
          exact hp (.ref p') F _ (Grow.mine eo.g.fh hp') ⟨p', _, rfl, hp', Evl.fresh_back eo.g.fh hp', upd_same, z⟩
    · exact hp.elim⟩
end
end Py
namespace Py
open PySem PySem.Spec PyProof.Rows L2
section
variable {S : Sx} {k : Nat} {f : Fm} {W : WX} {σ : Sg} {F H F1 H1 F0 H0 : Hp} {env : En} {Q : VK} {X : Cx} {pos cpos py : Pos} {D : Ends} {y : Str} {scope : Scope} {tg iter elt : Expr} {ifs : List Expr} {own : List (Str × Nat)} {idx : List Nat} {mi : En → R (List Dv)} {b : Dv → En → R En} {t : En → R (Bool × En)} {m : En → R (Dv × En)}
/-- x = [..], drawing -/
theorem post_lcE {r : R (Dv × En)} {i : Nat} (eo : EnvOk S F0 H0 F H σ env) (hp : PostS S W F0 H0 F (r.out fun p => .nx (p.2.set i (some (.val p.1)))) D) : PostE S W σ F0 H0 F H env r (fun v H1 => gName i v σ H1 D.nx) := by
  cases r with
  | ok p => exact fun v F1 H1 g ps eo1 r1 => hp _ F1 H1 g.ff (eo1.put i r1)
  | err n => exact fun c d F' H' g ex => hp c d σ F' H' g ex
  | stuck => exact hp.elim
theorem js_compE {own : List (Str × Nat)} (i : Nat) (ji : JIF S k f tg iter mi) (jg : JG S k (f.blk scope) tg idx b) (jt : JTEs S k (f.blk scope) ifs t) (je : JE S k (f.blk scope) elt m)
    (hk : f.sc.kind = .function := by decide +kernel) (hy : locA f i y = true := by decide +kernel)
    (hx : inB idx own = true := by decide +kernel) (ok : blkC f.N f.sc scope own = true := by decide +kernel) (hs : ∀ env x, foldedSetIterable iter env x = pure x := by intro _ _; rfl) :
    JS S k f (.Assign [.Name y py] (.ListComp elt [⟨tg, iter, ifs, 0⟩] scope cpos) pos) (fun env => (compEM mi (own.map (·.2)) b t m env).out fun p => .nx (p.2.set i (some (.val p.1)))) := by
  cases q : (f.sc.names.lookup y == some .local && py.line == cpos.line && !(scope.names.any fun (n, k) => n == y && (k == .local || k == .cell))) with
  | false =>
    refine js_ps fun X W fit tk => ?_
    obtain ⟨h1, h2, h3, h4⟩ := locX fit hy
    exact ⟨_, ps_set h1 h2 h3 pe_rd (by rw [sw_val (by rw [fit.hs]; exact hk), fit.hs, q]) h4, fun F0 H0 F H σ env D eo hp => je_comp ji jg jt je hx ok hs X W fit tk F0 H0 F H σ env _ eo (post_lcE eo hp)⟩
  | true =>
    simp only [Bool.and_eq_true, Bool.not_eq_true'] at q
    have w2 : f.sc.names.lookup y = some .local := eq_of_beq q.1.1
    obtain ⟨hN, _, _⟩ := locA_of hy
    exact js_ps fun X W fit tk =>
      ⟨_, ps_setLc (own := own) (i := i) fit.calm (by rw [fit.hN]; exact fit.nd) (by rw [fit.hN]; exact hN) (by rw [fit.hs]; exact w2) (sw_true (by rw [fit.hs]; exact hk) (by rw [fit.hs]; exact w2) q.1.2 q.2) pi_rd (blkOk_by (by rw [fit.hN, fit.hs]; exact ok)) pgB ptB peB (hs X.env),
        fun F0 H0 F H σ env D eo hp => lcE_run own ji jg jt je hx fit tk eo (post_lcE eo hp)⟩
end
end Py
namespace Py
abbrev setDM (i : Nat) (mj m : En → R Dv) : En → Out := fun env => (m env).out fun q => if isDic i env = true then (mj env).out fun j => setDO i j q env else .stuck
end Py
namespace Py
open PySem PySem.Spec PyProof.Rows L2
/-! ### the mirrors' words once more, by the recursors alone: the kernel runs them some five times faster -/
noncomputable section
variable {α β γ : Type}
def rb (r : R α) (f : α → R β) : R β := R.rec (motive := fun _ => R β) .stuck (fun x => .err x) f r
theorem rb_eq (r : R α) (f : α → R β) : rb r f = r.bind f := by cases r <;> rfl
def ro (r : R α) (f : α → Out) : Out := R.rec (motive := fun _ => Out) .stuck (fun x => .err x) f r
theorem ro_eq (r : R α) (f : α → Out) : ro r f = r.out f := by cases r <;> rfl
def b1F (g : α → R β) (m : En → R α) (env : En) : R β := R.rec (motive := fun _ => R β) .stuck (fun x => .err x) g (m env)
theorem b1F_eq : @b1F = @b1 := by funext α β g m env; exact rb_eq (m env) g
def b2F (g : α → β → R γ) (m : En → R α) (n : En → R β) (env : En) : R γ := R.rec (motive := fun _ => R γ) .stuck (fun x => .err x) (fun x => R.rec (motive := fun _ => R γ) .stuck (fun x => .err x) (fun y => g x y) (n env)) (m env)
theorem b2F_eq : @b2F = @b2 := by
  funext α β γ g m n env
  show rb (m env) (fun x => rb (n env) fun y => g x y) = _
  rw [rb_eq]
  unfold b2
  congr 1
  funext x
  rw [rb_eq]
def mpF (g : α → β) (m : En → R α) (env : En) : R β := R.rec (motive := fun _ => R β) .stuck (fun x => .err x) (fun a => .ok (g a)) (m env)
theorem mpF_eq : @mpF = @mp := by
  funext α β g m env
  unfold mpF mp
  cases m env <;> rfl
/-! slots -/
def nth (i : Nat) (env : En) : Option Sl := Nat.rec (motive := fun _ => En → Option Sl) (fun env => List.rec (motive := fun _ => Option Sl) none (fun a _ _ => a) env) (fun _ ih env => List.rec (motive := fun _ => Option Sl) none (fun _ t _ => ih t) env) i env
theorem nth_eq : ∀ (i : Nat) (env : En), nth i env = (env[i]?).getD none
  | 0, [] => rfl
  | 0, _ :: _ => rfl
  | i + 1, [] => rfl
  | i + 1, _ :: t => by
    show nth i t = _
    rw [nth_eq i t, List.getElem?_cons_succ]
def setN (i : Nat) (x : Option Sl) (env : En) : En := Nat.rec (motive := fun _ => En → En) (fun env => List.rec (motive := fun _ => En) [] (fun _ t _ => x :: t) env) (fun _ ih env => List.rec (motive := fun _ => En) [] (fun a t _ => a :: ih t) env) i env
theorem setN_eq (x : Option Sl) : ∀ (i : Nat) (env : En), setN i x env = env.set i x
  | 0, [] => rfl
  | 0, _ :: _ => rfl
  | i + 1, [] => rfl
  | i + 1, a :: t => by
    show a :: setN i x t = _
    rw [setN_eq x i t]
    rfl
def valF (i : Nat) (env : En) : R Dv := Option.rec (motive := fun _ => R Dv) .stuck (fun s => Sl.rec (motive := fun _ => R Dv) (fun d => .ok d) (fun _ => .stuck) (fun _ _ => .stuck) (fun _ => .stuck) (fun _ _ => .stuck) s) (nth i env)
theorem valF_eq : valF = valAt := by
  funext i env
  unfold valF valAt
  rw [nth_eq]
  cases env[i]? with
  | none => rfl
  | some o => cases o with
    | none => rfl
    | some s => cases s <;> rfl
def lookF (i : Nat) (env : En) : R Dv := Option.rec (motive := fun _ => R Dv) .stuck (fun s => Sl.rec (motive := fun _ => R Dv) (fun d => .ok d) (fun l => .ok (.lst l)) (fun _ _ => .stuck) (fun _ => .stuck) (fun _ _ => .stuck) s) (nth i env)
theorem lookF_eq : lookF = lookAt := by
  funext i env
  unfold lookF lookAt
  rw [nth_eq]
  cases env[i]? with
  | none => rfl
  | some o => cases o with
    | none => rfl
    | some s => cases s <;> rfl
def putF (i : Nat) (d : Dv) (env : En) : R En := .ok (setN i (some (.val d)) env)
theorem putF_eq : putF = putM := by
  funext i d env
  unfold putF putM
  rw [setN_eq]
def bindF (bs : List (Dv → En → R En)) : List Dv → En → R En := List.rec (motive := fun _ => List Dv → En → R En)
  (fun ds env => List.rec (motive := fun _ => R En) (.ok env) (fun _ _ _ => .stuck) ds)
  (fun b _ ih ds env => List.rec (motive := fun _ => R En) .stuck (fun d ds _ => R.rec (motive := fun _ => R En) .stuck (fun x => .err x) (fun e => ih ds e) (b d env)) ds) bs
theorem bindF_eq : ∀ (bs : List (Dv → En → R En)) (ds : List Dv) (env : En), bindF bs ds env = bindAll bs ds env
  | [], [], _ => rfl
  | [], _ :: _, _ => rfl
  | _ :: _, [], _ => rfl
  | b :: bs, d :: ds, env => by
    show rb (b d env) (fun e => bindF bs ds e) = (b d env).bind fun e => bindAll bs ds e
    rw [rb_eq]
    congr 1
    funext e
    exact bindF_eq bs ds e
def tupF (bs : List (Dv → En → R En)) (d : Dv) (env : En) : R En := Dv.casesOn (motive_1 := fun _ => R En) d .stuck (fun _ => .stuck) (fun _ => .stuck) (fun _ => .stuck) (fun l => bindF bs l env) (fun _ => .stuck) (fun _ => .stuck) (fun _ _ => .stuck)
theorem tupF_eq : tupF = tupM := by
  funext bs d env
  cases d <;> first | rfl | exact bindF_eq bs _ env
/-! lists -/
def lenN {α : Type} (l : List α) : Nat := List.rec (motive := fun _ => Nat) 0 (fun _ _ n => Nat.succ n) l
theorem lenN_eq {α : Type} : ∀ l : List α, lenN l = l.length
  | [] => rfl
  | a :: l => by
    show Nat.succ (lenN l) = _
    rw [lenN_eq l]
    rfl
def catF {α : Type} (x y : List α) : List α := List.rec (motive := fun _ => List α) y (fun a _ r => a :: r) x
theorem catF_eq {α : Type} : ∀ x y : List α, catF x y = x ++ y
  | [], _ => rfl
  | a :: x, y => by
    show a :: catF x y = _
    rw [catF_eq x y]
    rfl
/-- no longer than the line -/
def fitsL {α : Type} (l : List α) : Bool := Nat.ble (lenN l) 1000000
theorem fitsL_eq {α : Type} (l : List α) : (fitsL l = true) = (l.length ≤ lineP) := by
  unfold fitsL
  rw [lenN_eq, Nat.ble_eq]
def ifF {α : Sort _} (b : Bool) (x y : α) : α := Bool.rec (motive := fun _ => α) y x b
theorem ifF_eq {α : Sort _} (b : Bool) (x y : α) : ifF b x y = if b = true then x else y := by cases b <;> rfl
theorem ifF_fits {α : Type} {γ : Sort _} (l : List α) (x y : γ) : ifF (fitsL l) x y = if l.length ≤ lineP then x else y := by
  rw [ifF_eq]
  by_cases h : l.length ≤ lineP
  · rw [if_pos h, if_pos ((fitsL_eq l).mpr h)]
  · rw [if_neg h, if_neg (by rw [fitsL_eq]; exact h)]
def consF (m : En → R α) (n : En → R (List α)) (env : En) : R (List α) := R.rec (motive := fun _ => R (List α)) .stuck (fun x => .err x) (fun a => R.rec (motive := fun _ => R (List α)) .stuck (fun x => .err x) (fun l => .ok (a :: l)) (n env)) (m env)
theorem consF_eq : @consF Dv = consM := by
  funext m n env
  unfold consF consM
  cases m env <;> first | rfl | (cases n env <;> rfl)
def tpF (m : En → R (List Dv)) (env : En) : R Dv := R.rec (motive := fun _ => R Dv) .stuck (fun x => .err x) (fun l => ifF (fitsL l) (.ok (.tup l)) .stuck) (m env)
theorem tpF_eq : tpF = tupV := by
  funext m env
  unfold tpF tupV
  cases m env <;> first | rfl | exact ifF_fits _ _ _
def lsF (m : En → R (List Dv)) (env : En) : R (List Dv) := R.rec (motive := fun _ => R (List Dv)) .stuck (fun x => .err x) (fun l => ifF (fitsL l) (.ok l) .stuck) (m env)
theorem lsF_eq : lsF = lstV := by
  funext m env
  unfold lsF lstV
  cases m env <;> first | rfl | exact ifF_fits _ _ _
def itF (x : Dv) : R (List Dv) := Dv.casesOn (motive_1 := fun _ => R (List Dv)) x .stuck (fun _ => .stuck) (fun _ => .stuck) (fun _ => .stuck) (fun l => .ok l) (fun l => .ok l) (fun _ => .stuck) (fun _ _ => .stuck)
theorem itF_eq : itF = itemsD := by funext x; cases x <;> rfl
def seqDF (x : Dv) : R (List Dv) := Dv.casesOn (motive_1 := fun _ => R (List Dv)) x .stuck (fun _ => .stuck) (fun _ => .stuck) (fun _ => .stuck) (fun l => ifF (fitsL l) (.ok l) .stuck) (fun l => ifF (fitsL l) (.ok l) .stuck) (fun _ => .stuck) (fun _ _ => .stuck)
theorem seqDF_eq : seqDF = seqD := by
  funext x
  unfold seqD
  cases x <;> first | rfl | exact ifF_fits _ _ _
/-! loops, comprehensions -/
def compLF (b : Dv → En → R En) (t : En → R Bool) (e : En → R Dv) (env : En) (ds : List Dv) : R (List Dv) :=
  List.rec (motive := fun _ => R (List Dv)) (.ok []) (fun d _ ih => R.rec (motive := fun _ => R (List Dv)) .stuck (fun x => .err x) (fun em => R.rec (motive := fun _ => R (List Dv)) .stuck (fun x => .err x) (fun c => Bool.rec (motive := fun _ => R (List Dv)) ih
    (R.rec (motive := fun _ => R (List Dv)) .stuck (fun x => .err x) (fun v => R.rec (motive := fun _ => R (List Dv)) .stuck (fun x => .err x) (fun r => .ok (v :: r)) ih) (e em)) c) (t em)) (b d env)) ds
theorem compLF_eq (b : Dv → En → R En) (t : En → R Bool) (e : En → R Dv) (env : En) : ∀ ds : List Dv, compLF b t e env ds = compL b t e env ds
  | [] => rfl
  | d :: ds => by
    show rb (b d env) (fun em => rb (t em) fun c => ifF c (rb (e em) fun v => rb (compLF b t e env ds) fun r => .ok (v :: r)) (compLF b t e env ds)) = _
    rw [compLF_eq b t e env ds, rb_eq, compL]
    congr 1
    funext em
    rw [rb_eq]
    congr 1
    funext c
    rw [ifF_eq, rb_eq]
    congr 2
    funext v
    rw [rb_eq]
def wipeF (vs : List Nat) (env : En) : En := List.rec (motive := fun _ => En) env (fun v _ r => setN v none r) vs
theorem wipeF_eq (env : En) : ∀ vs : List Nat, wipeF vs env = wipeE env vs
  | [] => rfl
  | v :: vs => by
    show setN v none (wipeF vs env) = _
    rw [wipeF_eq env vs, setN_eq]
    rfl
def calmF (r : R α) : R α := R.rec (motive := fun _ => R α) .stuck (fun _ => .stuck) (fun a => .ok a) r
theorem calmF_eq (r : R α) : calmF r = r.calm := by cases r <;> rfl
def compF (mi : En → R (List Dv)) (vs : List Nat) (b : Dv → En → R En) (t : En → R Bool) (m : En → R Dv) (env : En) : R (List Dv) := R.rec (motive := fun _ => R (List Dv)) .stuck (fun x => .err x) (fun ds => calmF (compLF b t m (wipeF vs env) ds)) (mi env)
theorem compF_eq : compF = compM := by
  funext mi vs b t m env
  unfold compM
  rw [← rb_eq]
  show rb (mi env) (fun ds => calmF (compLF b t m (wipeF vs env) ds)) = _
  congr 1
  funext ds
  rw [calmF_eq, compLF_eq, wipeF_eq]
def comp2LF (b1 : Dv → En → R En) (t1 : En → R Bool) (s2 : En → R (List Dv)) (vs1 : List Nat) (b2 : Dv → En → R En) (t2 : En → R Bool) (e : En → R Dv) (env : En) (ds : List Dv) : R (List Dv) :=
  List.rec (motive := fun _ => R (List Dv)) (.ok []) (fun d _ ih => rb (b1 d env) fun em => rb (t1 em) fun c => Bool.rec (motive := fun _ => R (List Dv)) ih (rb (s2 em) fun l => rb (compLF b2 t2 e (wipeF vs1 em) l) fun r => rb ih fun q => .ok (catF r q)) c) ds
theorem comp2LF_eq (b1 : Dv → En → R En) (t1 : En → R Bool) (s2 : En → R (List Dv)) (vs1 : List Nat) (b2 : Dv → En → R En) (t2 : En → R Bool) (e : En → R Dv) (env : En) : ∀ ds : List Dv, comp2LF b1 t1 s2 vs1 b2 t2 e env ds = comp2 b1 t1 s2 vs1 b2 t2 e env ds
  | [] => rfl
  | d :: ds => by
    show rb (b1 d env) (fun em => rb (t1 em) fun c => ifF c (rb (s2 em) fun l => rb (compLF b2 t2 e (wipeF vs1 em) l) fun r => rb (comp2LF b1 t1 s2 vs1 b2 t2 e env ds) fun q => .ok (catF r q)) (comp2LF b1 t1 s2 vs1 b2 t2 e env ds)) = _
    rw [comp2LF_eq b1 t1 s2 vs1 b2 t2 e env ds, rb_eq, comp2]
    congr 1
    funext em
    rw [rb_eq]
    congr 1
    funext c
    rw [ifF_eq, rb_eq]
    congr 2
    funext l
    rw [rb_eq, compLF_eq, wipeF_eq]
    congr 1
    funext r
    rw [rb_eq]
    congr 1
    funext q
    rw [catF_eq]
def fitR (l : List Dv) : R (List Dv) := ifF (fitsL l) (.ok l) .stuck
theorem fitR_eq : fitR = capL := by funext l; exact ifF_fits _ _ _
def loopF (b : Dv → En → R En) (m : En → Out) (ds : List Dv) : En → Out := List.rec (motive := fun _ => En → Out) (fun env => .nx env)
  (fun d _ ih env => R.rec (motive := fun _ => Out) .stuck (fun _ => .stuck) (fun e => Out.rec (motive := fun _ => Out) .stuck (fun x => .err x) (fun e' => ih e') (fun s e => .rt s e) (fun e' => .nx e') (fun e' => ih e') (m e)) (b d env)) ds
theorem loopF_eq (b : Dv → En → R En) (m : En → Out) : ∀ (ds : List Dv) (env : En), loopF b m ds env = loopD b m ds env
  | [], _ => rfl
  | d :: ds, env => by
    show R.rec (motive := fun _ => Out) .stuck (fun _ => .stuck) (fun e => Out.rec (motive := fun _ => Out) .stuck (fun x => .err x) (fun e' => loopF b m ds e') (fun s e => .rt s e) (fun e' => .nx e') (fun e' => loopF b m ds e') (m e)) (b d env) = _
    rw [loopD]
    cases b d env with
    | ok e =>
      show Out.rec (motive := fun _ => Out) .stuck (fun x => .err x) (fun e' => loopF b m ds e') (fun s e => .rt s e) (fun e' => .nx e') (fun e' => loopF b m ds e') (m e) = (match m e with
        | .nx e' => loopD b m ds e'
        | .ct e' => loopD b m ds e'
        | .bk e' => .nx e'
        | o => o)
      cases m e <;> first | rfl | exact loopF_eq b m ds _
    | _ => rfl
def forF (mi : En → R (List Dv)) (b : Dv → En → R En) (m : En → Out) (env : En) : Out := R.rec (motive := fun _ => Out) .stuck (fun x => .err x) (fun ds => loopF b m ds env) (mi env)
theorem forF_eq : forF = forO := by
  funext mi b m env
  unfold forO
  rw [← ro_eq]
  show ro (mi env) (fun ds => loopF b m ds env) = _
  congr 1
  funext ds
  exact loopF_eq b m ds env
def whileF (t : En → R Bool) (m : En → Out) (n : Nat) : En → Out := Nat.rec (motive := fun _ => En → Out) (fun _ => .stuck)
  (fun _ ih env => R.rec (motive := fun _ => Out) .stuck (fun x => .err x) (fun c => Bool.rec (motive := fun _ => Out) (.nx env) (Out.rec (motive := fun _ => Out) .stuck (fun x => .err x) (fun e' => ih e') (fun s e => .rt s e) (fun e' => .nx e') (fun e' => ih e') (m env)) c) (t env)) n
theorem whileF_go (t : En → R Bool) (m : En → Out) : ∀ (n : Nat) (env : En), whileF t m n env = whileD t m n env
  | 0, _ => rfl
  | n + 1, env => by
    show ro (t env) (fun c => ifF c (Out.rec (motive := fun _ => Out) .stuck (fun x => .err x) (fun e' => whileF t m n e') (fun s e => .rt s e) (fun e' => .nx e') (fun e' => whileF t m n e') (m env)) (.nx env)) = _
    rw [ro_eq, whileD]
    congr 1
    funext c
    rw [ifF_eq]
    cases c with
    | false => rfl
    | true =>
      rw [if_pos rfl, if_pos rfl]
      cases m env <;> first | rfl | exact whileF_go t m n _
theorem whileF_eq : whileF = whileD := by
  funext t m n env
  exact whileF_go t m n env
/-! statements, tests -/
def seqF (m1 m2 : En → Out) (env : En) : Out := Out.rec (motive := fun _ => Out) .stuck (fun x => .err x) (fun e => m2 e) (fun s e => .rt s e) (fun e => .bk e) (fun e => .ct e) (m1 env)
theorem seqF_eq : seqF = seqO := by
  funext m1 m2 env
  unfold seqF seqO
  cases m1 env <;> rfl
def ifOF (t : En → R Bool) (m1 m2 : En → Out) (env : En) : Out := R.rec (motive := fun _ => Out) .stuck (fun x => .err x) (fun c => Bool.rec (motive := fun _ => Out) (m2 env) (m1 env) c) (t env)
theorem ifOF_eq : ifOF = ifO := by
  funext t m1 m2 env
  unfold ifOF ifO
  cases t env <;> first | rfl | (rename_i c; cases c <;> rfl)
def ifMF (t : En → R Bool) (a b : En → R α) (env : En) : R α := R.rec (motive := fun _ => R α) .stuck (fun x => .err x) (fun c => Bool.rec (motive := fun _ => R α) (b env) (a env) c) (t env)
theorem ifMF_eq : @ifMF = @ifM := by
  funext α t a b env
  unfold ifMF ifM
  cases t env <;> first | rfl | (rename_i c; cases c <;> rfl)
def blF (x : Dv) : R Bool := Dv.casesOn (motive_1 := fun _ => R Bool) x .stuck (fun b => .ok b) (fun _ => .stuck) (fun _ => .stuck) (fun _ => .stuck) (fun _ => .stuck) (fun _ => .stuck) (fun _ _ => .stuck)
theorem blF_eq (x : Dv) : blF x = blD x := by cases x <;> rfl
def andVF (a b : En → R Dv) (env : En) : R Dv := rb (a env) fun x => rb (blF x) fun t => ifF t (b env) (.ok (.bl false))
theorem andVF_eq : andVF = andV := by
  funext a b env
  simp only [andVF, andV, rb_eq, blF_eq, ifF_eq]
def orVF (a b : En → R Dv) (env : En) : R Dv := rb (a env) fun x => rb (blF x) fun t => ifF t (.ok (.bl true)) (b env)
theorem orVF_eq : orVF = orV := by
  funext a b env
  simp only [orVF, orV, rb_eq, blF_eq, ifF_eq]
def notVF (a : En → R Dv) (env : En) : R Dv := rb (a env) fun x => rb (blF x) fun t => .ok (.bl (!t))
theorem notVF_eq : notVF = notV := by
  funext a env
  simp only [notVF, notV, rb_eq, blF_eq]
def andMF (a b : En → R Bool) (env : En) : R Bool := rb (a env) fun x => ifF x (b env) (.ok false)
theorem andMF_eq : andMF = andM := by
  funext a b env
  simp only [andMF, andM, rb_eq, ifF_eq]
def orMF (a b : En → R Bool) (env : En) : R Bool := rb (a env) fun x => ifF x (.ok true) (b env)
theorem orMF_eq : orMF = orM := by
  funext a b env
  simp only [orMF, orM, rb_eq, ifF_eq]
def notMF (a : En → R Bool) (env : En) : R Bool := rb (a env) fun x => .ok (!x)
theorem notMF_eq : notMF = notM := by
  funext a env
  simp only [notMF, notM, rb_eq]
def setDF (i : Nat) (m : En → R Dv) (env : En) : Out := R.rec (motive := fun _ => Out) .stuck (fun x => .err x) (fun d => .nx (setN i (some (.val d)) env)) (m env)
theorem setDF_eq : setDF = setD := by
  funext i m env
  unfold setDF setD
  cases m env <;> first | rfl | (show Out.nx _ = Out.nx _; rw [setN_eq])
def setXF (i : Nat) (m : En → R Sl) (env : En) : Out := R.rec (motive := fun _ => Out) .stuck (fun x => .err x) (fun d => .nx (setN i (some d) env)) (m env)
theorem setXF_eq : setXF = setX := by
  funext i m env
  unfold setXF setX
  cases m env <;> first | rfl | (show Out.nx _ = Out.nx _; rw [setN_eq])
def setCF (sh : Bool) (i : Nat) (m : En → R (List Dv)) (env : En) : Out := R.rec (motive := fun _ => Out) .stuck (fun x => .err x) (fun l => .nx (setN i (some (asL sh l)) env)) (m env)
theorem setCF_eq : setCF = setC := by
  funext sh i m env
  unfold setCF setC
  cases m env <;> first | rfl | (show Out.nx _ = Out.nx _; rw [setN_eq])
def retDF (m : En → R Dv) (env : En) : Out := ro (m env) fun d => .rt (.val d) env
theorem retDF_eq : retDF = retD := by
  funext m env
  unfold retDF retD
  rw [ro_eq]
def retXF (m : En → R Sl) (env : En) : Out := ro (m env) fun d => .rt d env
theorem retXF_eq : retXF = retX := by
  funext m env
  unfold retXF retX
  rw [ro_eq]
/-! whole numbers -/
def ieq (i j : Int) : Bool := Int.rec (motive := fun _ => Bool) (fun m => Int.rec (motive := fun _ => Bool) (fun n => Nat.beq m n) (fun _ => false) j) (fun m => Int.rec (motive := fun _ => Bool) (fun _ => false) (fun n => Nat.beq m n) j) i
theorem ieq_eq (i j : Int) : ieq i j = (i == j) := by
  rw [Bool.eq_iff_iff, beq_iff_eq]
  cases i <;> cases j
  · show Nat.beq _ _ = true ↔ _
    rw [Nat.beq_eq]
    exact ⟨fun h => by rw [h], fun h => Int.ofNat.inj h⟩
  · exact ⟨fun h => Bool.noConfusion h, fun h => Int.noConfusion h⟩
  · exact ⟨fun h => Bool.noConfusion h, fun h => Int.noConfusion h⟩
  · show Nat.beq _ _ = true ↔ _
    rw [Nat.beq_eq]
    exact ⟨fun h => by rw [h], fun h => Int.negSucc.inj h⟩
def ile (i j : Int) : Bool := Int.rec (motive := fun _ => Bool) (fun m => Int.rec (motive := fun _ => Bool) (fun n => Nat.ble m n) (fun _ => false) j) (fun m => Int.rec (motive := fun _ => Bool) (fun _ => true) (fun n => Nat.ble n m) j) i
theorem ile_eq (i j : Int) : ile i j = decide (i ≤ j) := by
  rw [Bool.eq_iff_iff, decide_eq_true_iff]
  cases i with
  | ofNat m => cases j with
    | ofNat n =>
      show Nat.ble _ _ = true ↔ Int.ofNat m ≤ Int.ofNat n
      rw [Nat.ble_eq]
      exact Int.ofNat_le.symm
    | negSucc n => exact ⟨fun h => Bool.noConfusion h, fun h => by have : Int.ofNat m = (m : Int) := rfl; omega⟩
  | negSucc m => cases j with
    | ofNat n => exact ⟨fun _ => by have : Int.ofNat n = (n : Int) := rfl; omega, fun _ => rfl⟩
    | negSucc n =>
      show Nat.ble _ _ = true ↔ _
      rw [Nat.ble_eq]
      constructor <;> intro h <;> omega
def ilt (i j : Int) : Bool := !ile j i
theorem ilt_eq (i j : Int) : ilt i j = decide (i < j) := by
  unfold ilt
  rw [ile_eq]
  by_cases h : i < j
  · rw [decide_eq_true h, decide_eq_false (by omega)]
    rfl
  · rw [decide_eq_false h, decide_eq_true (by omega)]
    rfl
def cmpF (g : Int → Int → Bool) (x y : Dv) : R Bool := Dv.casesOn (motive_1 := fun _ => R Bool) x .stuck (fun _ => .stuck) (fun i => Dv.casesOn (motive_1 := fun _ => R Bool) y .stuck (fun _ => .stuck) (fun j => .ok (g i j)) (fun _ => .stuck) (fun _ => .stuck) (fun _ => .stuck) (fun _ => .stuck) (fun _ _ => .stuck)) (fun _ => .stuck) (fun _ => .stuck) (fun _ => .stuck) (fun _ => .stuck) (fun _ _ => .stuck)
def ltF : Dv → Dv → R Bool := cmpF ilt
def leF : Dv → Dv → R Bool := cmpF ile
def gtF : Dv → Dv → R Bool := cmpF fun i j => ilt j i
def geF : Dv → Dv → R Bool := cmpF fun i j => ile j i
theorem ltF_eq : ltF = CmpK.fd .lt := by funext x y; cases x <;> cases y <;> first | rfl | exact congrArg R.ok (ilt_eq _ _)
theorem leF_eq : leF = CmpK.fd .le := by funext x y; cases x <;> cases y <;> first | rfl | exact congrArg R.ok (ile_eq _ _)
theorem gtF_eq : gtF = CmpK.fd .gt := by funext x y; cases x <;> cases y <;> first | rfl | exact congrArg R.ok (ilt_eq _ _)
theorem geF_eq : geF = CmpK.fd .ge := by funext x y; cases x <;> cases y <;> first | rfl | exact congrArg R.ok (ile_eq _ _)
/-! == -/
def eqF : Dv → Dv → Bool := @Dv.rec (fun _ => Dv → Bool) (fun _ => List Dv → Bool)
  (fun y => Dv.casesOn (motive_1 := fun _ => Bool) y true (fun _ => false) (fun _ => false) (fun _ => false) (fun _ => false) (fun _ => false) (fun _ => false) (fun _ _ => false))
  (fun b y => Dv.casesOn (motive_1 := fun _ => Bool) y false (fun c => b == c) (fun j => ieq (if b then 1 else 0) j) (fun _ => false) (fun _ => false) (fun _ => false) (fun _ => false) (fun _ _ => false))
  (fun i y => Dv.casesOn (motive_1 := fun _ => Bool) y false (fun c => ieq i (if c then 1 else 0)) (fun j => ieq i j) (fun _ => false) (fun _ => false) (fun _ => false) (fun _ => false) (fun _ _ => false))
  (fun x y => Dv.casesOn (motive_1 := fun _ => Bool) y false (fun _ => false) (fun _ => false) (fun z => x == z) (fun _ => false) (fun _ => false) (fun _ => false) (fun _ _ => false))
  (fun _ ih y => Dv.casesOn (motive_1 := fun _ => Bool) y false (fun _ => false) (fun _ => false) (fun _ => false) (fun l' => ih l') (fun _ => false) (fun _ => false) (fun _ _ => false))
  (fun _ ih y => Dv.casesOn (motive_1 := fun _ => Bool) y false (fun _ => false) (fun _ => false) (fun _ => false) (fun _ => false) (fun l' => ih l') (fun _ => false) (fun _ _ => false))
  (fun _ _ => false)
  (fun _ _ _ _ => false)
  (fun l => List.rec (motive := fun _ => Bool) true (fun _ _ _ => false) l)
  (fun _ _ ih1 ih2 l => List.rec (motive := fun _ => Bool) false (fun y ys _ => Bool.rec (motive := fun _ => Bool) false (ih2 ys) (ih1 y)) l)
def eqFL (xs : List Dv) : List Dv → Bool := List.rec (motive := fun _ => List Dv → Bool) (fun l => List.rec (motive := fun _ => Bool) true (fun _ _ _ => false) l) (fun x _ ih l => List.rec (motive := fun _ => Bool) false (fun y ys _ => Bool.rec (motive := fun _ => Bool) false (ih ys) (eqF x y)) l) xs
/-- how deep; 1000 and more: not data -/
def mxF (a b : Nat) : Nat := Bool.rec (motive := fun _ => Nat) a b (Nat.ble a b)
def rk : Dv → Nat := @Dv.rec (fun _ => Nat) (fun _ => Nat) 0 (fun _ => 0) (fun _ => 0) (fun _ => 0) (fun _ n => Nat.succ n) (fun _ n => Nat.succ n) (fun _ => 1000) (fun _ _ _ => 1000) 0 (fun _ _ a b => mxF a b)
def rkL (l : List Dv) : Nat := List.rec (motive := fun _ => Nat) 0 (fun d _ n => mxF (rk d) n) l
theorem mxF_le (a b n : Nat) : mxF a b ≤ n ↔ a ≤ n ∧ b ≤ n := by
  unfold mxF
  cases h : Nat.ble a b with
  | true =>
    have h := Nat.le_of_ble_eq_true h
    show b ≤ n ↔ _
    omega
  | false =>
    have h : ¬ a ≤ b := fun z => by rw [Nat.ble_eq_true_of_le z] at h; cases h
    show a ≤ n ↔ _
    omega
theorem rk_tup : ∀ l : List Dv, rk (.tup l) = Nat.succ (rkL l)
  | [] => rfl
  | d :: l => by
    have e := Nat.succ.inj (rk_tup l)
    show Nat.succ (mxF (rk d) _) = Nat.succ (mxF (rk d) (rkL l))
    rw [← e]
theorem rk_lst : ∀ l : List Dv, rk (.lst l) = Nat.succ (rkL l)
  | [] => rfl
  | d :: l => by
    have e := Nat.succ.inj (rk_lst l)
    show Nat.succ (mxF (rk d) _) = Nat.succ (mxF (rk d) (rkL l))
    rw [← e]
mutual
theorem rk_okv : ∀ (d : Dv) (n : Nat), n ≤ 900 → (okv n d = true ↔ rk d ≤ n)
  | .non, n, h => by cases n <;> simp [okv, rk]
  | .bl _, n, h => by cases n <;> simp [okv, rk]
  | .int _, n, h => by cases n <;> simp [okv, rk]
  | .str _, n, h => by cases n <;> simp [okv, rk]
  | .fn _, n, h => ⟨fun q => by cases n <;> simp [okv] at q, fun q => by have q : 1000 ≤ n := q; omega⟩
  | .ins _ _, n, h => ⟨fun q => by cases n <;> simp [okv] at q, fun q => by have q : 1000 ≤ n := q; omega⟩
  | .tup l, n, h => by
    rw [rk_tup]
    cases n with
    | zero => exact ⟨fun q => by simp [okv] at q, fun q => by omega⟩
    | succ n =>
      rw [show okv (n + 1) (.tup l) = l.all (okv n) from by simp [okv], rk_okvL l n (by omega)]
      omega
  | .lst l, n, h => by
    rw [rk_lst]
    cases n with
    | zero => exact ⟨fun q => by simp [okv] at q, fun q => by omega⟩
    | succ n =>
      rw [show okv (n + 1) (.lst l) = l.all (okv n) from by simp [okv], rk_okvL l n (by omega)]
      omega
theorem rk_okvL : ∀ (l : List Dv) (n : Nat), n ≤ 900 → (l.all (okv n) = true ↔ rkL l ≤ n)
  | [], n, h => ⟨fun _ => Nat.zero_le _, fun _ => rfl⟩
  | d :: l, n, h => by
    rw [List.all_cons, Bool.and_eq_true, rk_okv d n h, rk_okvL l n h]
    show _ ↔ mxF (rk d) (rkL l) ≤ n
    rw [mxF_le]
end
def okF (d : Dv) : Bool := Nat.ble (rk d) 12
theorem okF_eq (d : Dv) : okF d = okv 12 d := by
  unfold okF
  rw [Bool.eq_iff_iff, Nat.ble_eq]
  exact (rk_okv d 12 (by decide)).symm
def okFL (l : List Dv) : Bool := Nat.ble (rkL l) 12
theorem okFL_eq (l : List Dv) : okFL l = l.all (okv 12) := by
  unfold okFL
  rw [Bool.eq_iff_iff, Nat.ble_eq]
  exact (rk_okvL l 12 (by decide)).symm
theorem eqF_tup : ∀ (l l' : List Dv), eqF (.tup l) (.tup l') = eqFL l l'
  | [], [] => rfl
  | [], _ :: _ => rfl
  | _ :: _, [] => rfl
  | x :: l, y :: l' => by
    have e := eqF_tup l l'
    show Bool.rec (motive := fun _ => Bool) false _ (eqF x y) = Bool.rec (motive := fun _ => Bool) false (eqFL l l') (eqF x y)
    rw [← e]
    rfl
theorem eqF_lst : ∀ (l l' : List Dv), eqF (.lst l) (.lst l') = eqFL l l'
  | [], [] => rfl
  | [], _ :: _ => rfl
  | _ :: _, [] => rfl
  | x :: l, y :: l' => by
    have e := eqF_lst l l'
    show Bool.rec (motive := fun _ => Bool) false _ (eqF x y) = Bool.rec (motive := fun _ => Bool) false (eqFL l l') (eqF x y)
    rw [← e]
    rfl
mutual
theorem eqF_eqv : ∀ (x y : Dv) (n : Nat), okv n x = true → eqF x y = eqv n x y
  | .non, y, n, h => by cases n <;> cases y <;> rfl
  | .bl b, y, n, h => by cases n <;> cases y <;> first | rfl | exact ieq_eq _ _
  | .int i, y, n, h => by cases n <;> cases y <;> first | rfl | exact ieq_eq _ _
  | .str s, y, n, h => by cases n <;> cases y <;> rfl
  | .fn _, y, n, h => by cases n <;> simp [okv] at h
  | .ins _ _, y, n, h => by cases n <;> simp [okv] at h
  | .tup l, y, n, h => by
    cases n with
    | zero => simp [okv] at h
    | succ n =>
      cases y with
      | tup l' =>
        rw [eqF_tup, eqv]
        exact eqFL_eqv l l' n (by simpa [okv] using h)
      | _ => rfl
  | .lst l, y, n, h => by
    cases n with
    | zero => simp [okv] at h
    | succ n =>
      cases y with
      | lst l' =>
        rw [eqF_lst, eqv]
        exact eqFL_eqv l l' n (by simpa [okv] using h)
      | _ => rfl
theorem eqFL_eqv : ∀ (l l' : List Dv) (n : Nat), l.all (okv n) = true → eqFL l l' = eqvL (eqv n) l l'
  | [], [], _, _ => rfl
  | [], _ :: _, _, _ => rfl
  | _ :: _, [], _, _ => rfl
  | x :: l, y :: l', n, h => by
    rw [List.all_cons, Bool.and_eq_true] at h
    show Bool.rec (motive := fun _ => Bool) false (eqFL l l') (eqF x y) = (eqv n x y && eqvL (eqv n) l l')
    rw [eqF_eqv x y n h.1, eqFL_eqv l l' n h.2]
    cases eqv n x y <;> rfl
end
def eqRF (x y : Dv) : R Bool := ifF (okF x) (ifF (okF y) (.ok (eqF x y)) .stuck) .stuck
theorem eqRF_eq (x y : Dv) : eqRF x y = if okv 12 x = true ∧ okv 12 y = true then .ok (eqv 12 x y) else .stuck := by
  unfold eqRF
  rw [ifF_eq, ifF_eq, okF_eq, okF_eq]
  by_cases h : okv 12 x = true
  · rw [if_pos h]
    by_cases h2 : okv 12 y = true
    · rw [if_pos h2, if_pos ⟨h, h2⟩, eqF_eqv x y 12 h]
    · rw [if_neg h2, if_neg fun q => h2 q.2]
  · rw [if_neg h, if_neg fun q => h q.1]
def eqDF (x y : Dv) : R Bool := Dv.casesOn (motive_1 := fun _ => R Bool) x (eqRF x y) (fun _ => eqRF x y) (fun i => Dv.casesOn (motive_1 := fun _ => R Bool) y (eqRF x y) (fun _ => eqRF x y) (fun j => .ok (ieq i j)) (fun _ => eqRF x y) (fun _ => eqRF x y) (fun _ => eqRF x y) (fun _ => eqRF x y) (fun _ _ => eqRF x y)) (fun _ => eqRF x y) (fun _ => eqRF x y) (fun _ => eqRF x y) (fun _ => eqRF x y) (fun _ _ => eqRF x y)
theorem eqDF_go (x y : Dv) : eqDF x y = eqD x y := by
  cases x <;> cases y <;> first
    | exact eqRF_eq _ _
    | exact congrArg R.ok (ieq_eq _ _)
theorem eqDF_eq : eqDF = CmpK.fd .eq := by funext x y; exact eqDF_go x y
def neDF (x y : Dv) : R Bool := rb (eqDF x y) fun b => .ok (!b)
theorem neDF_eq : neDF = CmpK.fd .ne := by
  funext x y
  show rb (eqDF x y) (fun b => .ok (!b)) = (eqD x y).map (!·)
  rw [eqDF_go]
  cases eqD x y <;> rfl
def anyEq (x : Dv) (l : List Dv) : Bool := List.rec (motive := fun _ => Bool) false (fun z _ r => Bool.rec (motive := fun _ => Bool) r true (eqF z x)) l
theorem anyEq_eq (x : Dv) : ∀ l : List Dv, l.all (okv 12) = true → anyEq x l = l.any fun z => eqv 12 z x
  | [], _ => rfl
  | z :: l, h => by
    rw [List.all_cons, Bool.and_eq_true] at h
    show Bool.rec (motive := fun _ => Bool) (anyEq x l) true (eqF z x) = _
    rw [anyEq_eq x l h.2, eqF_eqv z x 12 h.1, List.any_cons]
    cases eqv 12 z x <;> rfl
def inDF (x y : Dv) : R Bool := rb (itF y) fun l => ifF (okF x) (ifF (okFL l) (.ok (anyEq x l)) .stuck) .stuck
theorem inDF_go (x y : Dv) : inDF x y = inD x y := by
  unfold inDF inD
  rw [rb_eq, itF_eq]
  congr 1
  funext l
  rw [ifF_eq, ifF_eq, okF_eq, okFL_eq]
  by_cases h : okv 12 x = true
  · rw [if_pos h]
    by_cases h2 : l.all (okv 12) = true
    · rw [if_pos h2, if_pos ⟨h, h2⟩, anyEq_eq x l h2]
    · rw [if_neg h2, if_neg fun q => h2 q.2]
  · rw [if_neg h, if_neg fun q => h q.1]
theorem inDF_eq : inDF = CmpK.fd .inn := by funext x y; exact inDF_go x y
def ninDF (x y : Dv) : R Bool := rb (inDF x y) fun b => .ok (!b)
theorem ninDF_eq : ninDF = CmpK.fd .nin := by
  funext x y
  show rb (inDF x y) (fun b => .ok (!b)) = (inD x y).map (!·)
  rw [inDF_go]
  cases inD x y <;> rfl
def chainF (o p : Dv → Dv → R Bool) (ma mb mc : En → R Dv) (env : En) : R Bool := rb (ma env) fun x => rb (mb env) fun y => rb (o x y) fun t => ifF t (rb (mc env) fun z => p y z) (.ok false)
theorem chainF_eq (o p : CmpK) : chainF o.fd p.fd = chain2 o p := by
  funext ma mb mc env
  simp only [chainF, chain2, rb_eq, ifF_eq]
/-! sequences -/
def lenF (x : Dv) : R Dv := Dv.casesOn (motive_1 := fun _ => R Dv) x .stuck (fun _ => .stuck) (fun _ => .stuck) (fun s => lenD (.str s)) (fun l => .ok (.int (.ofNat (lenN l)))) (fun l => .ok (.int (.ofNat (lenN l)))) (fun _ => .stuck) (fun _ _ => .stuck)
theorem lenF_eq : lenF = lenD := by
  funext x
  cases x <;> first
    | rfl
    | (show R.ok (Dv.int (Int.ofNat (lenN _))) = _; rw [lenN_eq]; rfl)
def iadd (i j : Int) : Int := i + j
def addF (x y : Dv) : R Sl := Dv.casesOn (motive_1 := fun _ => R Sl) x (addD x y) (fun _ => addD x y) (fun _ => addD x y) (fun _ => addD x y)
  (fun a => Dv.casesOn (motive_1 := fun _ => R Sl) y (addD x y) (fun _ => addD x y) (fun _ => addD x y) (fun _ => addD x y) (fun b => ifF (Nat.ble (Nat.add (lenN a) (lenN b)) 1000000) (.ok (.val (.tup (catF a b)))) .stuck) (fun _ => addD x y) (fun _ => addD x y) (fun _ _ => addD x y))
  (fun a => Dv.casesOn (motive_1 := fun _ => R Sl) y (addD x y) (fun _ => addD x y) (fun _ => addD x y) (fun _ => addD x y) (fun _ => addD x y) (fun b => ifF (Nat.ble (Nat.add (lenN a) (lenN b)) 1000000) (.ok (.own (catF a b))) .stuck) (fun _ => addD x y) (fun _ _ => addD x y))
  (fun _ => addD x y) (fun _ _ => addD x y)
theorem addF_if {γ : Type} (a b : List Dv) (u v : γ) : ifF (Nat.ble (Nat.add (lenN a) (lenN b)) 1000000) u v = if a.length + b.length ≤ lineP then u else v := by
  rw [ifF_eq, lenN_eq, lenN_eq]
  by_cases h : a.length + b.length ≤ lineP
  · rw [if_pos h, if_pos (show Nat.ble (Nat.add a.length b.length) 1000000 = true from Nat.ble_eq_true_of_le h)]
  · rw [if_neg h, if_neg (show ¬ Nat.ble (Nat.add a.length b.length) 1000000 = true from fun q => h (Nat.le_of_ble_eq_true q))]
theorem addF_eq : addF = addD := by
  funext x y
  cases x <;> cases y <;> first
    | rfl
    | (show ifF _ _ _ = _; rw [addF_if, catF_eq]; rfl)
def allTF (g : Bool → Bool → Bool) (z : Bool) (l : List Dv) : R Bool := List.rec (motive := fun _ => R Bool) (.ok z) (fun d _ r => Dv.casesOn (motive_1 := fun _ => R Bool) d .stuck (fun b => R.rec (motive := fun _ => R Bool) .stuck (fun x => .err x) (fun c => .ok (g b c)) r) (fun i => R.rec (motive := fun _ => R Bool) .stuck (fun x => .err x) (fun c => .ok (g (!ieq i 0) c)) r) (fun _ => .stuck) (fun _ => .stuck) (fun _ => .stuck) (fun _ => .stuck) (fun _ _ => .stuck)) l
theorem allTF_eq (g : Bool → Bool → Bool) (z : Bool) : ∀ l : List Dv, allTF g z l = (trusD l).map fun bs => bs.foldr g z
  | [] => rfl
  | d :: l => by
    have ih := allTF_eq g z l
    cases d <;> first
      | rfl
      | (show R.rec (motive := fun _ => R Bool) .stuck (fun x => .err x) (fun c => .ok (g _ c)) (allTF g z l) = _
         rw [ih]
         simp only [trusD]
         cases trusD l <;> first | rfl | (simp only [R.map, List.foldr_cons]; first | rfl | (rw [ieq_eq]; rfl)))
theorem foldr_any : ∀ l : List Bool, l.foldr (fun a b => ifF a true b) false = l.any id
  | [] => rfl
  | a :: l => by
    rw [List.foldr_cons, foldr_any l, List.any_cons]
    cases a <;> rfl
theorem foldr_all : ∀ l : List Bool, l.foldr (fun a b => ifF a b false) true = l.all id
  | [] => rfl
  | a :: l => by
    rw [List.foldr_cons, foldr_all l, List.all_cons]
    cases a <;> rfl
def anyF (x : Dv) : R Dv := rb (itF x) fun l => rb (allTF (fun a b => ifF a true b) false l) fun b => .ok (.bl b)
theorem anyF_eq : anyF = anyD := by
  funext x
  unfold anyF anyD
  rw [rb_eq, itF_eq]
  congr 1
  funext l
  rw [rb_eq, allTF_eq]
  cases trusD l <;> first | rfl | (simp only [R.map, R.bind]; rw [foldr_any])
def allF (x : Dv) : R Dv := rb (itF x) fun l => rb (allTF (fun a b => ifF a b false) true l) fun b => .ok (.bl b)
theorem allF_eq : allF = allD := by
  funext x
  unfold allF allD
  rw [rb_eq, itF_eq]
  congr 1
  funext l
  rw [rb_eq, allTF_eq]
  cases trusD l <;> first | rfl | (simp only [R.map, R.bind]; rw [foldr_all])
def upF (i n : Nat) : List Dv := Nat.rec (motive := fun _ => Nat → List Dv) (fun _ => []) (fun _ ih i => Dv.int (.ofNat i) :: ih (Nat.succ i)) n i
theorem upF_go : ∀ (n i : Nat), upF i n = (List.range' i n).map fun (j : Nat) => Dv.int (j : Int)
  | 0, _ => rfl
  | n + 1, i => by
    show Dv.int (.ofNat i) :: upF (i + 1) n = _
    rw [upF_go n (i + 1), List.range'_succ]
    rfl
theorem upF_eq (n : Nat) : upF 0 n = upTo 0 n := by
  rw [upF_go, upTo, List.range_eq_range']
  congr 1
  funext j
  rw [Int.zero_add]
def rngF (x : Dv) : R (List Dv) := Dv.casesOn (motive_1 := fun _ => R (List Dv)) x .stuck (fun _ => .stuck) (fun n => Int.rec (motive := fun _ => R (List Dv)) (fun k => ifF (Nat.ble k 1000000) (.ok (upF 0 k)) .stuck) (fun _ => rng1D x) n) (fun _ => .stuck) (fun _ => .stuck) (fun _ => .stuck) (fun _ => .stuck) (fun _ _ => .stuck)
theorem rngF_eq : rngF = rng1D := by
  funext x
  cases x with
  | int n =>
    cases n with
    | ofNat k =>
      show ifF (Nat.ble k 1000000) (R.ok (upF 0 k)) R.stuck = if -1000000 ≤ Int.ofNat k ∧ Int.ofNat k ≤ 1000000 then R.ok (upTo 0 (Int.ofNat k).toNat) else R.stuck
      rw [ifF_eq, upF_eq]
      have e : Int.ofNat k = (k : Int) := rfl
      by_cases h : k ≤ 1000000
      · rw [if_pos (Nat.ble_eq_true_of_le h), if_pos (by rw [e]; omega)]
        rfl
      · rw [if_neg fun q => h (Nat.le_of_ble_eq_true q), if_neg (by rw [e]; omega)]
    | negSucc k => rfl
  | _ => rfl
/-- a def -/
def envF (n : Nat) (ds : List Dv) : En := List.rec (motive := fun _ => En) (Nat.rec (motive := fun _ => En) [] (fun _ r => none :: r) n) (fun d _ r => some (.val d) :: r) ds
theorem envF_eq (n : Nat) : ∀ ds : List Dv, envF n ds = ds.map (fun d => some (.val d)) ++ List.replicate n none
  | [] => by
    show Nat.rec (motive := fun _ => En) [] (fun _ r => none :: r) n = [] ++ List.replicate n none
    rw [List.nil_append]
    induction n with
    | zero => rfl
    | succ n ih =>
      show none :: Nat.rec (motive := fun _ => En) [] (fun _ r => none :: r) n = _
      rw [ih]
      rfl
  | d :: ds => by
    show some (.val d) :: envF n ds = _
    rw [envF_eq n ds]
    rfl
def funF (n z : Nat) (body : En → Out) (ds : List Dv) : R Sl := ifF (Nat.beq (lenN ds) n) (Out.rec (motive := fun _ => R Sl) .stuck (fun x => .err x) (fun _ => .ok (.val .non)) (fun s _ => .ok s) (fun _ => .stuck) (fun _ => .stuck) (body (envF z ds))) .stuck
theorem funF_eq : funF = funM := by
  funext n z body ds
  unfold funF funM
  rw [ifF_eq, lenN_eq, envF_eq]
  by_cases h : ds.length = n
  · rw [if_pos (by rw [Nat.beq_eq]; exact h), if_pos h]
    cases body (ds.map (fun d => some (.val d)) ++ List.replicate z none) <;> rfl
  · rw [if_neg (by rw [Nat.beq_eq]; exact h), if_neg h]
theorem FdOk.fast {S : Sc} {k n z : Nat} {x : Str} {body : En → Out} (h : FdOk S k x n (funM n z body)) : FdOk S k x n (funF n z body) := by
  rw [funF_eq]
  exact h
end
end Py
namespace Py
noncomputable section
def comp2F (mi : En → R (List Dv)) (vs : List Nat) (b1 : Dv → En → R En) (t1 : En → R Bool) (s2 : En → R (List Dv)) (vs1 : List Nat) (b2 : Dv → En → R En) (t2 : En → R Bool) (e : En → R Dv) (env : En) : R (List Dv) := rb (mi env) fun ds => calmF (rb (comp2LF b1 t1 s2 vs1 b2 t2 e (wipeF vs env) ds) fitR)
theorem comp2F_eq : comp2F = compM2 := by
  funext mi vs b1 t1 s2 vs1 b2 t2 e env
  unfold comp2F compM2
  rw [rb_eq]
  congr 1
  funext ds
  rw [calmF_eq, rb_eq, comp2LF_eq, wipeF_eq, fitR_eq]
end
end Py
namespace Py
open PySem PySem.Spec PyProof.Rows L2
noncomputable section
/-! more fast words -/
def retLF (m : En → R (List Dv)) (env : En) : Out := ro (m env) fun l => .rt (.own l) env
theorem retLF_eq : retLF = retL := by
  funext m env
  unfold retLF retL
  rw [ro_eq]
def truF (x : Dv) : R Bool := Dv.casesOn (motive_1 := fun _ => R Bool) x (.ok false) (fun b => .ok b) (fun i => .ok (!ieq i 0)) (fun _ => .stuck) (fun l => .ok (List.rec (motive := fun _ => Bool) false (fun _ _ _ => true) l)) (fun l => .ok (List.rec (motive := fun _ => Bool) false (fun _ _ _ => true) l)) (fun _ => .stuck) (fun _ _ => .stuck)
theorem truF_eq : truF = truD := by
  funext x
  cases x with
  | int i =>
    show R.ok (!ieq i 0) = R.ok (i != 0)
    rw [ieq_eq]
    rfl
  | tup l => cases l <;> rfl
  | lst l => cases l <;> rfl
  | _ => rfl
def nthO {α : Type} (i : Nat) (l : List α) : Option α := Nat.rec (motive := fun _ => List α → Option α) (fun l => List.rec (motive := fun _ => Option α) none (fun a _ _ => some a) l) (fun _ ih l => List.rec (motive := fun _ => Option α) none (fun _ t _ => ih t) l) i l
theorem nthO_eq {α : Type} : ∀ (i : Nat) (l : List α), nthO i l = l[i]?
  | 0, [] => rfl
  | 0, _ :: _ => rfl
  | i + 1, [] => rfl
  | i + 1, _ :: t => by
    show nthO i t = _
    rw [nthO_eq i t, List.getElem?_cons_succ]
def okO (o : Option Dv) : R Dv := Option.rec (motive := fun _ => R Dv) .stuck (fun d => .ok d) o
def ixL (x : List Dv) (y : Dv) (z : R Dv) : R Dv := Dv.casesOn (motive_1 := fun _ => R Dv) y z (fun _ => z) (fun i => Int.rec (motive := fun _ => R Dv) (fun k => okO (nthO k x)) (fun _ => z) i) (fun _ => z) (fun _ => z) (fun _ => z) (fun _ => z) (fun _ _ => z)
def ixF (x y : Dv) : R Dv := Dv.casesOn (motive_1 := fun _ => R Dv) x (ixD x y) (fun _ => ixD x y) (fun _ => ixD x y) (fun _ => ixD x y) (fun l => ixL l y (ixD x y)) (fun l => ixL l y (ixD x y)) (fun _ => ixD x y) (fun _ _ => ixD x y)
theorem atI_nat' {α : Type} (l : List α) (k : Nat) : atI l (Int.ofNat k) = l[k]? := by
  unfold atI ixN
  have e : Int.ofNat k = (k : Int) := rfl
  rw [if_pos (by rw [e]; omega)]
  by_cases h : k < l.length
  · rw [if_pos (by rw [e]; omega)]
    rfl
  · rw [if_neg (by rw [e]; omega), List.getElem?_eq_none (by omega)]
    rfl
theorem ixF_eq : ixF = ixD := by
  funext x y
  cases x with
  | tup l =>
    cases y with
    | int i => cases i with
      | ofNat k =>
        show okO (nthO k l) = (match atI l (Int.ofNat k) with | some d => R.ok d | none => R.stuck)
        rw [atI_nat', nthO_eq]
        cases l[k]? <;> rfl
      | negSucc k => rfl
    | _ => rfl
  | lst l =>
    cases y with
    | int i => cases i with
      | ofNat k =>
        show okO (nthO k l) = (match atI l (Int.ofNat k) with | some d => R.ok d | none => R.stuck)
        rw [atI_nat', nthO_eq]
        cases l[k]? <;> rfl
      | negSucc k => rfl
    | _ => rfl
  | _ => rfl
/-- what a slot's own list is made into -/
def ownF (i : Nat) (env : En) (g : List Dv → Out) : Out := Option.rec (motive := fun _ => Out) .stuck (fun s => Sl.rec (motive := fun _ => Out) (fun _ => .stuck) (fun l => g l) (fun _ _ => .stuck) (fun _ => .stuck) (fun _ _ => .stuck) s) (nth i env)
/-- x.append(e) -/
def appF (i : Nat) (m : En → R Dv) (env : En) : Out := ownF i env fun l => ro (m env) fun d => ifF (Nat.ble (Nat.succ (lenN l)) 1000000) (.nx (setN i (some (.own (catF l [d]))) env)) .stuck
theorem appF_eq (i : Nat) (m : En → R Dv) : appF i m = dropE (methE i appD (keepE m)) := by
  funext env
  show appF i m env = (methE i appD (keepE m) env).out fun p => Out.nx p.2
  unfold appF ownF methE isOwn keepE
  rw [nth_eq]
  cases h : env[i]? with
  | none => rfl
  | some o => cases o with
    | none => rfl
    | some s => cases s with
      | own l =>
        show ro (m env) (fun d => ifF (Nat.ble (Nat.succ (lenN l)) 1000000) (.nx (setN i (some (.own (catF l [d]))) env)) .stuck) = ((((m env).map fun d => (d, env)).bind fun q => wrL i q.2 (appD q.1)).out fun p => .nx p.2)
        rw [ro_eq]
        cases m env with
        | ok d =>
          show ifF _ _ _ = (wrL i env (appD d)).out fun p => Out.nx p.2
          unfold wrL appD
          rw [h, ifF_eq, lenN_eq, setN_eq, catF_eq]
          by_cases q : l.length < lineP
          · rw [if_pos (Nat.ble_eq_true_of_le q)]
            dsimp only
            rw [if_pos q]
            rfl
          · rw [if_neg fun z => q (Nat.le_of_ble_eq_true z)]
            dsimp only
            rw [if_neg q]
            rfl
        | _ => rfl
      | _ => rfl
/-! sorted of tuples of whole numbers -/
def isI (d : Dv) : Bool := Dv.casesOn (motive_1 := fun _ => Bool) d false (fun _ => false) (fun _ => true) (fun _ => false) (fun _ => false) (fun _ => false) (fun _ => false) (fun _ _ => false)
def allI (l : List Dv) : Bool := List.rec (motive := fun _ => Bool) true (fun d _ r => ifF (isI d) r false) l
def isIT (d : Dv) : Bool := Dv.casesOn (motive_1 := fun _ => Bool) d false (fun _ => false) (fun _ => false) (fun _ => false) (fun l => List.rec (motive := fun _ => Bool) false (fun x t _ => ifF (isI x) (allI t) false) l) (fun _ => false) (fun _ => false) (fun _ _ => false)
def allIT (l : List Dv) : Bool := List.rec (motive := fun _ => Bool) true (fun d _ r => ifF (isIT d) r false) l
theorem isI_of {d : Dv} (h : isI d = true) : ∃ i, d = .int i := by
  cases d <;> first | exact ⟨_, rfl⟩ | cases h
theorem allI_of : ∀ {l : List Dv}, allI l = true → ∃ ns : List Int, l = ns.map Dv.int
  | [], _ => ⟨[], rfl⟩
  | d :: l, h => by
    have h : ifF (isI d) (allI l) false = true := h
    cases q : isI d with
    | false => rw [q] at h; cases h
    | true =>
      rw [q] at h
      obtain ⟨i, rfl⟩ := isI_of q
      obtain ⟨ns, rfl⟩ := allI_of (l := l) h
      exact ⟨i :: ns, rfl⟩
theorem isIT_of {d : Dv} (h : isIT d = true) : ∃ (n : Int) (ns : List Int), d = .tup ((n :: ns).map Dv.int) := by
  cases d <;> first | cases h | skip
  rename_i l
  cases l with
  | nil => cases h
  | cons x t =>
    have h : ifF (isI x) (allI t) false = true := h
    cases q : isI x with
    | false => rw [q] at h; cases h
    | true =>
      rw [q] at h
      obtain ⟨i, rfl⟩ := isI_of q
      obtain ⟨ns, rfl⟩ := allI_of (l := t) h
      exact ⟨i, ns, rfl⟩
theorem allIT_of : ∀ {l : List Dv}, allIT l = true → ∀ d ∈ l, isIT d = true
  | [], _ => fun d h => by cases h
  | x :: l, h => by
    have h : ifF (isIT x) (allIT l) false = true := h
    cases q : isIT x with
    | false => rw [q] at h; cases h
    | true =>
      rw [q] at h
      intro d hd
      rcases List.mem_cons.mp hd with e | e
      · rw [e]; exact q
      · exact allIT_of (l := l) h d e
theorem okv_ints : ∀ (n : Nat) (ns : List Int), (ns.map Dv.int).all (okv n) = true
  | _, [] => rfl
  | n, i :: ns => by
    rw [List.map_cons, List.all_cons, okv_ints n ns]
    cases n <;> rfl
theorem alk_ints : ∀ (n : Nat) (ns ms : List Int), alkL (alk n) (ns.map Dv.int) (ms.map Dv.int) = true
  | _, [], _ => by simp [alkL]
  | _, _ :: _, [] => rfl
  | n, i :: ns, j :: ms => by
    rw [List.map_cons, List.map_cons, alkL, alk_ints n ns ms]
    cases n <;> rfl
/-- x ≤ y, of the items -/
def leI (xs : List Dv) : List Dv → Bool := List.rec (motive := fun _ => List Dv → Bool) (fun _ => true) (fun x _ ih l => List.rec (motive := fun _ => Bool) false (fun y ys _ => Dv.casesOn (motive_1 := fun _ => Bool) x true (fun _ => true) (fun i => Dv.casesOn (motive_1 := fun _ => Bool) y true (fun _ => true) (fun j => ifF (ieq i j) (ih ys) (ile i j)) (fun _ => true) (fun _ => true) (fun _ => true) (fun _ => true) (fun _ _ => true)) (fun _ => true) (fun _ => true) (fun _ => true) (fun _ => true) (fun _ _ => true)) l) xs
theorem leI_eq : ∀ (ns ms : List Int), leI (ns.map Dv.int) (ms.map Dv.int) = !ltvL (ltv 11) (eqv 11) (ms.map Dv.int) (ns.map Dv.int)
  | [], [] => rfl
  | [], _ :: _ => rfl
  | _ :: _, [] => rfl
  | i :: ns, j :: ms => by
    show ifF (ieq i j) (leI (ns.map Dv.int) (ms.map Dv.int)) (ile i j) = !(if eqv 11 (.int j) (.int i) = true then ltvL (ltv 11) (eqv 11) (ms.map Dv.int) (ns.map Dv.int) else ltv 11 (.int j) (.int i))
    rw [ifF_eq, leI_eq ns ms, ieq_eq, ile_eq]
    have e0 : eqv 11 (.int j) (.int i) = (j == i) := rfl
    have e3 : ltv 11 (.int j) (.int i) = decide (j < i) := rfl
    rw [e3]
    by_cases h : i = j
    · subst h
      rw [if_pos (beq_self_eq_true i), if_pos (e0.trans (beq_self_eq_true i))]
    · have h2 : ¬ j = i := fun z => h z.symm
      have e1 : (i == j) = false := beq_eq_false_iff_ne.mpr h
      have e2 : (j == i) = false := beq_eq_false_iff_ne.mpr h2
      rw [if_neg (by rw [e1]; exact Bool.false_ne_true), if_neg (by rw [e0, e2]; exact Bool.false_ne_true)]
      by_cases h3 : i ≤ j
      · rw [decide_eq_true h3, decide_eq_false (by omega)]
        rfl
      · rw [decide_eq_false h3, decide_eq_true (by omega)]
        rfl
def leT (x y : Dv) : Bool := Dv.casesOn (motive_1 := fun _ => Bool) x true (fun _ => true) (fun _ => true) (fun _ => true) (fun a => Dv.casesOn (motive_1 := fun _ => Bool) y true (fun _ => true) (fun _ => true) (fun _ => true) (fun b => leI a b) (fun _ => true) (fun _ => true) (fun _ _ => true)) (fun _ => true) (fun _ => true) (fun _ _ => true)
theorem leT_eq {x y : Dv} (hx : isIT x = true) (hy : isIT y = true) : leT x y = lev x y := by
  obtain ⟨n, ns, rfl⟩ := isIT_of hx
  obtain ⟨m, ms, rfl⟩ := isIT_of hy
  exact leI_eq (n :: ns) (m :: ms)
def putInF (x : Dv) (l : List Dv) : List Dv := List.rec (motive := fun _ => List Dv) [x] (fun y r ih => ifF (leT x y) (x :: y :: r) (y :: ih)) l
theorem putInF_eq (x : Dv) : ∀ l : List Dv, putInF x l = putIn leT x l
  | [] => rfl
  | y :: r => by
    show ifF (leT x y) (x :: y :: r) (y :: putInF x r) = _
    rw [ifF_eq, putInF_eq x r, putIn]
def putAllF (l : List Dv) : List Dv := List.rec (motive := fun _ => List Dv) [] (fun x _ r => putInF x r) l
theorem putAllF_eq : ∀ l : List Dv, putAllF l = putAll leT l
  | [] => rfl
  | x :: l => by
    show putInF x (putAllF l) = _
    rw [putInF_eq, putAllF_eq l, putAll]
def sortGF (l : List Dv) : R (List Dv) := ifF (allIT l) (ifF (fitsL l) (.ok (putAllF l)) .stuck) (sortG l)
theorem sortGF_eq : sortGF = sortG := by
  funext l
  unfold sortGF
  rw [ifF_eq]
  by_cases h : allIT l = true
  · rw [if_pos h, ifF_fits, putAllF_eq]
    have all := allIT_of h
    have h1 : l.all (okv 12) = true := List.all_eq_true.mpr fun d hd => by
      obtain ⟨n, ns, rfl⟩ := isIT_of (all d hd)
      rw [show okv 12 (.tup ((n :: ns).map Dv.int)) = ((n :: ns).map Dv.int).all (okv 11) from by simp [okv]]
      exact okv_ints 11 (n :: ns)
    have h2 : alkA l = true := List.all_eq_true.mpr fun x hx => List.all_eq_true.mpr fun y hy => by
      obtain ⟨n, ns, rfl⟩ := isIT_of (all x hx)
      obtain ⟨m, ms, rfl⟩ := isIT_of (all y hy)
      exact alk_ints 11 (n :: ns) (m :: ms)
    have h3 : sortableB l = true := by
      unfold sortableB
      rw [Bool.or_eq_true]
      left
      exact List.all_eq_true.mpr fun d hd => by
        obtain ⟨n, ns, rfl⟩ := isIT_of (all d hd)
        rfl
    rw [putAll_congr (r := leT) (s := lev) fun x hx y hy => leT_eq (all x hx) (all y hy)]
    unfold sortG
    by_cases h4 : l.length ≤ lineP
    · rw [if_pos h4, if_pos ⟨h1, h2, h3, h4⟩]
    · rw [if_neg h4, if_neg fun q => h4 q.2.2.2]
  · rw [if_neg h]
def hdT (l : List Dv) : Bool := allIT l
def sortAllF (x : Dv) : R (List Dv) := Dv.casesOn (motive_1 := fun _ => R (List Dv)) x (sortAll x) (fun _ => sortAll x) (fun _ => sortAll x) (fun _ => sortAll x) (fun _ => sortAll x) (fun l => ifF (allIT l) (sortGF l) (sortAll x)) (fun _ => sortAll x) (fun _ _ => sortAll x)
theorem sortAllF_eq : sortAllF = sortAll := by
  funext x
  cases x with
  | lst l =>
    show ifF (allIT l) (sortGF l) (sortAll (.lst l)) = sortAll (.lst l)
    rw [ifF_eq]
    by_cases h : allIT l = true
    · rw [if_pos h, sortGF_eq]
      have h3 : sortableB l = true := by
        unfold sortableB
        rw [Bool.or_eq_true]
        left
        exact List.all_eq_true.mpr fun d hd => by
          obtain ⟨n, ns, rfl⟩ := isIT_of (allIT_of h d hd)
          rfl
      unfold sortAll
      dsimp only
      rw [if_pos h3]
    · rw [if_neg h]
  | _ => rfl
/-! dicts -/
def dicF {β : Type} (i : Nat) (env : En) (z : β) (g : List (Dv × Dv) → β) : β := Option.rec (motive := fun _ => β) z (fun s => Sl.rec (motive := fun _ => β) (fun _ => z) (fun _ => z) (fun _ _ => z) (fun l => g l) (fun _ _ => z) s) (nth i env)
def keysF (l : List (Dv × Dv)) : List Dv := List.rec (motive := fun _ => List Dv) [] (fun p _ r => p.1 :: r) l
theorem keysF_eq : ∀ l : List (Dv × Dv), keysF l = l.map (·.1)
  | [] => rfl
  | p :: l => by
    show p.1 :: keysF l = _
    rw [keysF_eq l]
    rfl
def sortDicF (i : Nat) (env : En) : R (List Dv) := dicF i env .stuck fun l => sortGF (keysF l)
theorem sortDicF_eq : sortDicF = sortDicD := by
  funext i env
  unfold sortDicF sortDicD dicF
  rw [nth_eq]
  cases env[i]? with
  | none => rfl
  | some o => cases o with
    | none => rfl
    | some s => cases s <;> first | rfl | (show sortGF (keysF _) = _; rw [sortGF_eq, keysF_eq])
theorem hash_ints : ∀ (n : Nat) (ns : List Int), (ns.map Dv.int).all (hashB n) = true
  | _, [] => rfl
  | n, i :: ns => by
    rw [List.map_cons, List.all_cons, hash_ints n ns]
    cases n <;> rfl
def hasKey (l : List (Dv × Dv)) (d : Dv) : Bool := List.rec (motive := fun _ => Bool) false (fun p _ r => ifF (eqF p.1 d) true r) l
def overF (d v : Dv) (l : List (Dv × Dv)) : List (Dv × Dv) := List.rec (motive := fun _ => List (Dv × Dv)) [] (fun p _ r => ifF (eqF p.1 d) (p.1, v) p :: r) l
def putKF (l : List (Dv × Dv)) (d v : Dv) : List (Dv × Dv) := ifF (hasKey l d) (overF d v l) (catF l [(d, v)])
theorem eqF_it {x d : Dv} (hx : isIT d = true) : eqF x d = eqv 8 x d := by
  obtain ⟨n, ns, rfl⟩ := isIT_of hx
  cases x with
  | tup l =>
    rw [eqF_tup, eqv]
    generalize (n :: ns) = ms
    induction l generalizing ms with
    | nil => cases ms <;> rfl
    | cons y l ih =>
      cases ms with
      | nil => rfl
      | cons m ms =>
        show Bool.rec (motive := fun _ => Bool) false (eqFL l (ms.map Dv.int)) (eqF y (.int m)) = (eqv 7 y (.int m) && eqvL (eqv 7) l (ms.map Dv.int))
        rw [ih ms]
        have e : eqF y (.int m) = eqv 7 y (.int m) := by cases y <;> first | rfl | exact ieq_eq _ _
        rw [e]
        cases eqv 7 y (.int m) <;> rfl
  | _ => rfl
theorem hasKey_eq {d : Dv} (hd : isIT d = true) : ∀ l : List (Dv × Dv), hasKey l d = (dAt l d).isSome
  | [] => rfl
  | p :: l => by
    show ifF (eqF p.1 d) true (hasKey l d) = _
    rw [hasKey_eq hd l, eqF_it hd, ifF_eq]
    unfold dAt
    rw [List.find?_cons]
    cases eqv 8 p.1 d <;> rfl
theorem overF_eq {d : Dv} (hd : isIT d = true) (v : Dv) : ∀ l : List (Dv × Dv), overF d v l = l.map fun q => if eqv 8 q.1 d = true then (q.1, v) else q
  | [] => rfl
  | p :: l => by
    show ifF (eqF p.1 d) (p.1, v) p :: overF d v l = _
    rw [overF_eq hd v l, eqF_it hd, ifF_eq]
    rfl
theorem putKF_eq {d : Dv} (hd : isIT d = true) (l : List (Dv × Dv)) (v : Dv) : putKF l d v = dPut l d v := by
  unfold putKF dPut
  rw [ifF_eq, hasKey_eq hd, overF_eq hd, catF_eq]
def setDOF (i : Nat) (j d : Dv) (env : En) : Out := ifF (isIT j) (dicF i env .stuck fun l => ifF (Nat.ble (Nat.succ (lenN l)) 1000000) (.nx (setN i (some (.dic (putKF l j d))) env)) .stuck) (setDO i j d env)
theorem setDOF_eq (i : Nat) (j d : Dv) (env : En) : setDOF i j d env = setDO i j d env := by
  unfold setDOF
  rw [ifF_eq]
  by_cases h : isIT j = true
  · rw [if_pos h]
    unfold setDO dicF
    rw [nth_eq]
    cases env[i]? with
    | none => rfl
    | some o => cases o with
      | none => rfl
      | some s => cases s with
        | dic l =>
          show ifF _ _ _ = _
          rw [ifF_eq, lenN_eq, setN_eq, putKF_eq h]
          have hh : hashB 8 j = true := by
            obtain ⟨n, ns, rfl⟩ := isIT_of h
            rw [show hashB 8 (.tup ((n :: ns).map Dv.int)) = ((n :: ns).map Dv.int).all (hashB 7) from by simp [hashB]]
            exact hash_ints 7 (n :: ns)
          have hi : headIs j = true := by
            obtain ⟨n, ns, rfl⟩ := isIT_of h
            rfl
          dsimp only
          by_cases q : l.length < lineP
          · rw [if_pos (Nat.ble_eq_true_of_le q), if_pos ⟨hh, hi, q⟩]
          · rw [if_neg fun z => q (Nat.le_of_ble_eq_true z), if_neg fun z => q z.2.2]
        | _ => rfl
  · rw [if_neg h]
def setDMF (i : Nat) (mj m : En → R Dv) (env : En) : Out := ro (m env) fun q => ifF (isDic i env) (ro (mj env) fun j => setDOF i j q env) .stuck
theorem setDMF_eq : setDMF = setDM := by
  funext i mj m env
  unfold setDMF setDM
  rw [ro_eq]
  congr 1
  funext q
  rw [ifF_eq, ro_eq]
  congr 2
  funext j
  exact setDOF_eq i j q env
end
end Py
namespace Py
open PySem PySem.Spec PyProof.Rows L2
section
def topS (i : Nat) : Stmt := PySem.Challenge.pw_hullroads_k65_whole_orders_and_their_par.main.body.getD i (.Pass ⟨0, 0, 0, 0⟩)
/-- what the top has written -/
structure Tx (S : Sc) : Prop where
  d_is_integer : DefOk S "is_integer" (topS 5) ["value"]
  d_is_order : DefOk S "is_order" (topS 8) ["n", "pairs"]
  d_check_order : DefOk S "check_order" (topS 9) ["n", "pairs"]
  d_choices_below : DefOk S "choices_below" (topS 10) ["n"]
  d_filters : DefOk S "filters" (topS 11) ["n", "pairs"]
  d_antichains : DefOk S "antichains" (topS 12) ["n", "pairs"]
  d_extensions : DefOk S "extensions" (topS 13) ["n", "pairs"]
  d_natural : DefOk S "natural" (topS 14) ["n", "pairs"]
  d_longest_chain : DefOk S "longest_chain" (topS 15) ["n", "pairs"]
  d_covers : DefOk S "covers" (topS 16) ["n", "pairs"]
  d_closed_order : DefOk S "closed_order" (topS 17) ["n", "pairs"]
  d__law_state : DefOk S "_law_state" (topS 19) ["script"]
  d__law_take : DefOk S "_law_take" (topS 20) ["state", "m"]
  d__law_is_whole : DefOk S "_law_is_whole" (topS 21) ["value"]
  d__law_same : DefOk S "_law_same" (topS 22) ["one", "two"]
  d__law_says : DefOk S "_law_says" (topS 23) ["value", "due"]
  d__law_picks : DefOk S "_law_picks" (topS 24) ["n", "k"]
  d__law_reason : DefOk S "_law_reason" (topS 25) ["f", "given"]
  d__law_closed_pairs : DefOk S "_law_closed_pairs" (topS 26) ["n", "pairs"]
  d__law_drawn_order : DefOk S "_law_drawn_order" (topS 27) ["state"]
  d__law_sets_of : DefOk S "_law_sets_of" (topS 28) ["n"]
  d__law_rows_of : DefOk S "_law_rows_of" (topS 29) ["n", "order"]
  d__law_is_chain : DefOk S "_law_is_chain" (topS 30) ["own", "order"]
  b_isinstance : S.mg "isinstance" = none
  b_int : S.mg "int" = none
  b_bool : S.mg "bool" = none
  b_tuple : S.mg "tuple" = none
  b_len : S.mg "len" = none
  b_all : S.mg "all" = none
  b_list : S.mg "list" = none
  b_sorted : S.mg "sorted" = none
  b_set : S.mg "set" = none
  b_any : S.mg "any" = none
  b_range : S.mg "range" = none
  b_max : S.mg "max" = none
  b_abs : S.mg "abs" = none
  b_str : S.mg "str" = none
  n_MOST_ITEMS : NumV S "MOST_ITEMS" 4
  x_Malformed : ClsOk S "Malformed" 0
  v_natural : FnV S "natural" 0
  v_longest_chain : FnV S "longest_chain" 1
  v_covers : FnV S "covers" 2
  v_extensions : FnV S "extensions" 3
  v_antichains : FnV S "antichains" 4
  v_filters : FnV S "filters" 5
  v_closed_order : FnV S "closed_order" 6
variable {S : Sc}
noncomputable section

/-! is_integer -/
def N_is_integer : List Str := ["value"]
theorem sc_is_integer : FnScope N_is_integer ["value"] (defScope (topS 5)) := ⟨rfl, rfl, rfl, by decide +kernel, rfl, by decide +kernel, by decide +kernel⟩
def body_is_integer : En → Out := (retDF (andVF (mpF Dv.bl (b1F (isiD .int) (lookF 0))) (notVF (mpF Dv.bl (b1F (isiD .bool) (lookF 0))))))
def m_is_integer : List Dv → R Sl := funF 1 0 body_is_integer
theorem ok_is_integer (T : Tx S) : FdOk S 1 "is_integer" 1 m_is_integer := by
  refine FdOk.fast (fd_mk 0 1 0 body_is_integer T.d_is_integer sc_is_integer rfl rfl ?_)
  unfold body_is_integer
  try simp only [addF_eq, allF_eq, andMF_eq, andVF_eq, anyF_eq, b1F_eq, b2F_eq, comp2F_eq, compF_eq, consF_eq, eqDF_eq, forF_eq, geF_eq, gtF_eq, ifMF_eq, ifOF_eq, inDF_eq, itF_eq, ixF_eq, leF_eq, lenF_eq, lookF_eq, lsF_eq, ltF_eq, mpF_eq, neDF_eq, ninDF_eq, notMF_eq, notVF_eq, orMF_eq, orVF_eq, putF_eq, retDF_eq, retLF_eq, retXF_eq, rngF_eq, seqDF_eq, seqF_eq, setCF_eq, setDF_eq, setDMF_eq, setXF_eq, sortAllF_eq, sortDicF_eq, tpF_eq, truF_eq, tupF_eq, valF_eq, whileF_eq, chainF_eq, appF_eq]
  refine jss_one ?_
  refine js_retD ?_
  refine jd_and ?_ ?_
  refine jd_j ?_
  refine jc_isi .int T.b_isinstance T.b_int ?_
  exact jb_v 0 (by decide +kernel)
  refine jd_one ?_
  refine jd_not ?_
  refine jd_j ?_
  refine jc_isi .bool T.b_isinstance T.b_bool ?_
  exact jb_v 0 (by decide +kernel)

/-! is_order -/
def N_is_order : List Str := ["n", "pairs", "own", "x", "a", "b", "c", "d"]
theorem sc_is_order : FnScope N_is_order ["n", "pairs"] (defScope (topS 8)) := ⟨rfl, rfl, rfl, by decide +kernel, rfl, by decide +kernel, by decide +kernel⟩
def body_is_order : En → Out := (seqF (ifOF (orMF (notMF (b1F truF (mpF Sl.d (b1F m_is_integer (consF (valF 0) nilA))))) (orMF (notMF (chainF leF leF (kc (.int 1)) (lookF 0) (kc (.int 4)))) (notMF (b1F truF (mpF Dv.bl (b1F (isiD .tuple) (lookF 1))))))) (retDF (kc (.bl false))) .nx) (seqF (forF (b1F seqDF (valF 1)) (putF 2) (ifOF (orMF (notMF (b1F truF (mpF Dv.bl (b1F (isiD .tuple) (lookF 2))))) (orMF (b2F neDF (b1F lenF (lookF 2)) (kc (.int 2))) (notMF (b1F truF (b1F allF (mpF Dv.lst (compF (b1F seqDF (lookF 2)) [3] (putF 3) yesT (andVF (mpF Sl.d (b1F m_is_integer (consF (valF 3) nilA))) (mpF Dv.bl (chainF leF ltF (kc (.int 0)) (lookF 3) (lookF 0))))))))))) (retDF (kc (.bl false))) .nx)) (seqF (ifOF (orMF (b2F neDF (mpF Dv.lst (b1F itF (lookF 1))) (mpF Dv.lst (b1F sortSetD (lookF 1)))) (b1F truF (b1F anyF (mpF Dv.lst (compF (b1F seqDF (lookF 1)) [4, 5] (tupF [(putF 4), (putF 5)]) yesT (orVF (mpF Dv.bl (b2F eqDF (lookF 4) (lookF 5))) (mpF Dv.bl (b2F inDF (tpF (consF (valF 5) (consF (valF 4) nilA))) (lookF 1))))))))) (retDF (kc (.bl false))) .nx) (retDF (b1F allF (mpF Dv.lst (comp2F (b1F seqDF (lookF 1)) [4, 5, 6, 7] (tupF [(putF 4), (putF 5)]) yesT (b1F seqDF (valF 1)) [6, 7] (tupF [(putF 6), (putF 7)]) (b2F eqDF (lookF 5) (lookF 6)) (mpF Dv.bl (b2F inDF (tpF (consF (valF 4) (consF (valF 7) nilA))) (lookF 1))))))))))
def m_is_order : List Dv → R Sl := funF 2 6 body_is_order
theorem ok_is_order (T : Tx S) : FdOk S 2 "is_order" 2 m_is_order := by
  have c_is_integer := (ok_is_integer T).le (show 1 ≤ 1 by omega)
  refine FdOk.fast (fd_mk 1 2 6 body_is_order T.d_is_order sc_is_order rfl rfl ?_)
  unfold body_is_order
  try simp only [addF_eq, allF_eq, andMF_eq, andVF_eq, anyF_eq, b1F_eq, b2F_eq, comp2F_eq, compF_eq, consF_eq, eqDF_eq, forF_eq, geF_eq, gtF_eq, ifMF_eq, ifOF_eq, inDF_eq, itF_eq, ixF_eq, leF_eq, lenF_eq, lookF_eq, lsF_eq, ltF_eq, mpF_eq, neDF_eq, ninDF_eq, notMF_eq, notVF_eq, orMF_eq, orVF_eq, putF_eq, retDF_eq, retLF_eq, retXF_eq, rngF_eq, seqDF_eq, seqF_eq, setCF_eq, setDF_eq, setDMF_eq, setXF_eq, sortAllF_eq, sortDicF_eq, tpF_eq, truF_eq, tupF_eq, valF_eq, whileF_eq, chainF_eq, appF_eq]
  refine jss_cons ?_ ?_
  refine js_if ?_ ?_ ?_
  refine jt_w ?_
  refine jw_or ?_ ?_
  refine jt_not ?_
  refine jt_val ?_
  refine jb_x ?_
  refine jx_call (c_is_integer) ?_
  refine ja_cons ?_ ?_
  exact jd_v 0 (by decide +kernel)
  exact ja_nil
  refine jw_or ?_ ?_
  refine jt_not ?_
  refine jt_chain .le .le ?_ ?_ ?_
  refine jb_d ?_
  exact jd_int
  exact jb_v 0 (by decide +kernel)
  refine jb_d ?_
  exact jd_num T.n_MOST_ITEMS
  refine jw_or1 ?_
  refine jt_not ?_
  refine jt_val ?_
  refine jb_d ?_
  refine jd_j ?_
  refine jc_isi .tuple T.b_isinstance T.b_tuple ?_
  exact jb_v 1 (by decide +kernel)
  refine jss_one ?_
  refine js_retD ?_
  exact jd_bl
  exact jss_nil
  refine jss_cons ?_ ?_
  refine js_for ?_ (jg_n 2 (by decide +kernel)) ?_
  refine jif_seq ?_
  exact jd_v 1 (by decide +kernel)
  refine jss_one ?_
  refine js_if ?_ ?_ ?_
  refine jt_w ?_
  refine jw_or ?_ ?_
  refine jt_not ?_
  refine jt_val ?_
  refine jb_d ?_
  refine jd_j ?_
  refine jc_isi .tuple T.b_isinstance T.b_tuple ?_
  exact jb_v 2 (by decide +kernel)
  refine jw_or ?_ ?_
  refine jt_cmp .ne ?_ ?_
  refine jb_d ?_
  refine jd_len T.b_len ?_
  exact jb_v 2 (by decide +kernel)
  refine jb_d ?_
  exact jd_int
  refine jw_or1 ?_
  refine jt_not ?_
  refine jt_val ?_
  refine jb_d ?_
  refine jd_all T.b_all ?_
  refine jb_l ?_
  refine jl_comp (own := [("x", 3)]) ?_ (jg_n 3 (by decide +kernel)) ?_ ?_
  refine ji_seq ?_
  exact jb_v 2 (by decide +kernel)
  exact jts_nil
  refine jd_and ?_ ?_
  refine jd_x ?_
  refine jx_call (c_is_integer) ?_
  refine ja_cons ?_ ?_
  exact jd_v 3 (by decide +kernel)
  exact ja_nil
  refine jd_one ?_
  refine jd_j ?_
  refine jc_chain .le .lt ?_ ?_ ?_
  refine jb_d ?_
  exact jd_int
  exact jb_v 3 (by decide +kernel)
  exact jb_v 0 (by decide +kernel)
  refine jss_one ?_
  refine js_retD ?_
  exact jd_bl
  exact jss_nil
  refine jss_cons ?_ ?_
  refine js_if ?_ ?_ ?_
  refine jt_w ?_
  refine jw_or ?_ ?_
  refine jt_cmp .ne ?_ ?_
  refine jb_l ?_
  refine jl_list T.b_list ?_
  exact jb_v 1 (by decide +kernel)
  refine jb_l ?_
  refine jl_sortSet T.b_sorted T.b_set ?_
  exact jb_v 1 (by decide +kernel)
  refine jw_or1 ?_
  refine jt_val ?_
  refine jb_d ?_
  refine jd_any T.b_any ?_
  refine jb_l ?_
  refine jl_comp (own := [("a", 4), ("b", 5)]) ?_ (jg_t (jgs_cons (jg_n 4 (by decide +kernel)) (jgs_cons (jg_n 5 (by decide +kernel)) jgs_nil))) ?_ ?_
  refine ji_seq ?_
  exact jb_v 1 (by decide +kernel)
  exact jts_nil
  refine jd_or ?_ ?_
  refine jd_j ?_
  refine jc_cmp .eq ?_ ?_
  exact jb_v 4 (by decide +kernel)
  exact jb_v 5 (by decide +kernel)
  refine jd_one ?_
  refine jd_j ?_
  refine jc_cmp .inn ?_ ?_ (by with_unfolding_all rfl)
  refine jb_d ?_
  refine jd_tup ?_
  refine ja_cons ?_ ?_
  exact jd_v 5 (by decide +kernel)
  refine ja_cons ?_ ?_
  exact jd_v 4 (by decide +kernel)
  exact ja_nil
  exact jb_v 1 (by decide +kernel)
  refine jss_one ?_
  refine js_retD ?_
  exact jd_bl
  exact jss_nil
  refine jss_one ?_
  refine js_retD ?_
  refine jd_all T.b_all ?_
  refine jb_l ?_
  refine jl_comp2 (own := [("a", 4), ("b", 5), ("c", 6), ("d", 7)]) (vs1 := [6, 7]) ?_ (jg_t (jgs_cons (jg_n 4 (by decide +kernel)) (jgs_cons (jg_n 5 (by decide +kernel)) jgs_nil))) ?_ ?_ (jg_t (jgs_cons (jg_n 6 (by decide +kernel)) (jgs_cons (jg_n 7 (by decide +kernel)) jgs_nil))) ?_ ?_
  refine ji_seq ?_
  exact jb_v 1 (by decide +kernel)
  exact jts_nil
  refine jif_seq ?_
  exact jd_v 1 (by decide +kernel)
  refine jts_one ?_
  refine jt_cmp .eq ?_ ?_
  exact jb_v 5 (by decide +kernel)
  exact jb_v 6 (by decide +kernel)
  refine jd_j ?_
  refine jc_cmp .inn ?_ ?_ (by with_unfolding_all rfl)
  refine jb_d ?_
  refine jd_tup ?_
  refine ja_cons ?_ ?_
  exact jd_v 4 (by decide +kernel)
  refine ja_cons ?_ ?_
  exact jd_v 7 (by decide +kernel)
  exact ja_nil
  exact jb_v 1 (by decide +kernel)

/-! check_order -/
def N_check_order : List Str := ["n", "pairs"]
theorem sc_check_order : FnScope N_check_order ["n", "pairs"] (defScope (topS 9)) := ⟨rfl, rfl, rfl, by decide +kernel, rfl, by decide +kernel, by decide +kernel⟩
def body_check_order : En → Out := (ifOF (notMF (b1F truF (mpF Sl.d (b1F m_is_order (consF (valF 0) (consF (valF 1) nilA)))))) (errM 0) .nx)
def m_check_order : List Dv → R Sl := funF 2 0 body_check_order
theorem ok_check_order (T : Tx S) : FdOk S 3 "check_order" 2 m_check_order := by
  have c_is_order := (ok_is_order T).le (show 2 ≤ 2 by omega)
  refine FdOk.fast (fd_mk 2 2 0 body_check_order T.d_check_order sc_check_order rfl rfl ?_)
  unfold body_check_order
  try simp only [addF_eq, allF_eq, andMF_eq, andVF_eq, anyF_eq, b1F_eq, b2F_eq, comp2F_eq, compF_eq, consF_eq, eqDF_eq, forF_eq, geF_eq, gtF_eq, ifMF_eq, ifOF_eq, inDF_eq, itF_eq, ixF_eq, leF_eq, lenF_eq, lookF_eq, lsF_eq, ltF_eq, mpF_eq, neDF_eq, ninDF_eq, notMF_eq, notVF_eq, orMF_eq, orVF_eq, putF_eq, retDF_eq, retLF_eq, retXF_eq, rngF_eq, seqDF_eq, seqF_eq, setCF_eq, setDF_eq, setDMF_eq, setXF_eq, sortAllF_eq, sortDicF_eq, tpF_eq, truF_eq, tupF_eq, valF_eq, whileF_eq, chainF_eq, appF_eq]
  refine jss_one ?_
  refine js_if ?_ ?_ ?_
  refine jt_not ?_
  refine jt_val ?_
  refine jb_x ?_
  refine jx_call (c_is_order) ?_
  refine ja_cons ?_ ?_
  exact jd_v 0 (by decide +kernel)
  refine ja_cons ?_ ?_
  exact jd_v 1 (by decide +kernel)
  exact ja_nil
  refine jss_one ?_
  exact js_raise T.x_Malformed
  exact jss_nil

/-! choices_below -/
def N_choices_below : List Str := ["n", "found", "x", "own"]
theorem sc_choices_below : FnScope N_choices_below ["n"] (defScope (topS 10)) := ⟨rfl, rfl, rfl, by decide +kernel, rfl, by decide +kernel, by decide +kernel⟩
def body_choices_below : En → Out := (seqF (setDF 1 (mpF Dv.lst (lsF (consF (tpF nilA) nilA)))) (seqF (forF (b1F rngF (lookF 0)) (putF 2) (setDF 1 (mpF Sl.d (b2F addF (lookF 1) (mpF Dv.lst (compF (b1F seqDF (lookF 1)) [3] (putF 3) yesT (mpF Sl.d (b2F addF (lookF 3) (tpF (consF (valF 2) nilA)))))))))) (retLF (b1F sortAllF (lookF 1)))))
def m_choices_below : List Dv → R Sl := funF 1 3 body_choices_below
theorem ok_choices_below (T : Tx S) : FdOk S 1 "choices_below" 1 m_choices_below := by
  refine FdOk.fast (fd_mk 0 1 3 body_choices_below T.d_choices_below sc_choices_below rfl rfl ?_)
  unfold body_choices_below
  try simp only [addF_eq, allF_eq, andMF_eq, andVF_eq, anyF_eq, b1F_eq, b2F_eq, comp2F_eq, compF_eq, consF_eq, eqDF_eq, forF_eq, geF_eq, gtF_eq, ifMF_eq, ifOF_eq, inDF_eq, itF_eq, ixF_eq, leF_eq, lenF_eq, lookF_eq, lsF_eq, ltF_eq, mpF_eq, neDF_eq, ninDF_eq, notMF_eq, notVF_eq, orMF_eq, orVF_eq, putF_eq, retDF_eq, retLF_eq, retXF_eq, rngF_eq, seqDF_eq, seqF_eq, setCF_eq, setDF_eq, setDMF_eq, setXF_eq, sortAllF_eq, sortDicF_eq, tpF_eq, truF_eq, tupF_eq, valF_eq, whileF_eq, chainF_eq, appF_eq]
  refine jss_cons ?_ ?_
  refine js_setD 1 ?_
  refine jd_l ?_
  refine jl_lst ?_
  refine ja_cons ?_ ?_
  refine jd_tup ?_
  exact ja_nil
  exact ja_nil
  refine jss_cons ?_ ?_
  refine js_for ?_ (jg_n 2 (by decide +kernel)) ?_
  refine jif_rng1 T.b_range ?_
  exact jb_v 0 (by decide +kernel)
  refine jss_one ?_
  refine js_setD 1 ?_
  refine jd_x ?_
  refine jx_add ?_ ?_
  exact jb_v 1 (by decide +kernel)
  refine jb_l ?_
  refine jl_comp (own := [("own", 3)]) ?_ (jg_n 3 (by decide +kernel)) ?_ ?_
  refine ji_seq ?_
  exact jb_v 1 (by decide +kernel)
  exact jts_nil
  refine jd_x ?_
  refine jx_add ?_ ?_
  exact jb_v 3 (by decide +kernel)
  refine jb_d ?_
  refine jd_tup ?_
  refine ja_cons ?_ ?_
  exact jd_v 2 (by decide +kernel)
  exact ja_nil
  refine jss_one ?_
  refine js_retL ?_
  refine jl_sortAll T.b_sorted ?_
  exact jb_v 1 (by decide +kernel)

/-! filters -/
def N_filters : List Str := ["n", "pairs", "own", "a", "b"]
theorem sc_filters : FnScope N_filters ["n", "pairs"] (defScope (topS 11)) := ⟨rfl, rfl, rfl, by decide +kernel, rfl, by decide +kernel, by decide +kernel⟩
def body_filters : En → Out := (seqF (dropD (mpF Sl.d (b1F m_check_order (consF (valF 0) (consF (valF 1) nilA))))) (retDF (b1F tupleD (mpF Dv.lst (compF (b1F seqDF (mpF Sl.d (b1F m_choices_below (consF (valF 0) nilA)))) [2] (putF 2) (b1F truF (b1F allF (mpF Dv.lst (compF (b1F seqDF (lookF 1)) [3, 4] (tupF [(putF 3), (putF 4)]) (b2F inDF (lookF 3) (lookF 2)) (mpF Dv.bl (b2F inDF (lookF 4) (lookF 2))))))) (valF 2))))))
def m_filters : List Dv → R Sl := funF 2 3 body_filters
theorem ok_filters (T : Tx S) : FdOk S 4 "filters" 2 m_filters := by
  have c_check_order := (ok_check_order T).le (show 3 ≤ 3 by omega)
  have c_choices_below := (ok_choices_below T).le (show 1 ≤ 3 by omega)
  refine FdOk.fast (fd_mk 3 2 3 body_filters T.d_filters sc_filters rfl rfl ?_)
  unfold body_filters
  try simp only [addF_eq, allF_eq, andMF_eq, andVF_eq, anyF_eq, b1F_eq, b2F_eq, comp2F_eq, compF_eq, consF_eq, eqDF_eq, forF_eq, geF_eq, gtF_eq, ifMF_eq, ifOF_eq, inDF_eq, itF_eq, ixF_eq, leF_eq, lenF_eq, lookF_eq, lsF_eq, ltF_eq, mpF_eq, neDF_eq, ninDF_eq, notMF_eq, notVF_eq, orMF_eq, orVF_eq, putF_eq, retDF_eq, retLF_eq, retXF_eq, rngF_eq, seqDF_eq, seqF_eq, setCF_eq, setDF_eq, setDMF_eq, setXF_eq, sortAllF_eq, sortDicF_eq, tpF_eq, truF_eq, tupF_eq, valF_eq, whileF_eq, chainF_eq, appF_eq]
  refine jss_cons ?_ ?_
  refine js_expr ?_
  refine jd_x ?_
  refine jx_call (c_check_order) ?_
  refine ja_cons ?_ ?_
  exact jd_v 0 (by decide +kernel)
  refine ja_cons ?_ ?_
  exact jd_v 1 (by decide +kernel)
  exact ja_nil
  refine jss_one ?_
  refine js_retD ?_
  refine jd_tuple T.b_tuple ?_
  refine jb_l ?_
  refine jl_comp (own := [("own", 2)]) ?_ (jg_n 2 (by decide +kernel)) ?_ ?_
  refine ji_seq ?_
  refine jb_x ?_
  refine jx_call (c_choices_below) ?_
  refine ja_cons ?_ ?_
  exact jd_v 0 (by decide +kernel)
  exact ja_nil
  refine jts_one ?_
  refine jt_val ?_
  refine jb_d ?_
  refine jd_all T.b_all ?_
  refine jb_l ?_
  refine jl_comp (own := [("a", 3), ("b", 4)]) ?_ (jg_t (jgs_cons (jg_n 3 (by decide +kernel)) (jgs_cons (jg_n 4 (by decide +kernel)) jgs_nil))) ?_ ?_
  refine ji_seq ?_
  exact jb_v 1 (by decide +kernel)
  refine jts_one ?_
  refine jt_cmp .inn ?_ ?_ (by with_unfolding_all rfl)
  exact jb_v 3 (by decide +kernel)
  exact jb_v 2 (by decide +kernel)
  refine jd_j ?_
  refine jc_cmp .inn ?_ ?_ (by with_unfolding_all rfl)
  exact jb_v 4 (by decide +kernel)
  exact jb_v 2 (by decide +kernel)
  exact jd_v 2 (by decide +kernel)

/-! antichains -/
def N_antichains : List Str := ["n", "pairs", "own", "a", "b"]
theorem sc_antichains : FnScope N_antichains ["n", "pairs"] (defScope (topS 12)) := ⟨rfl, rfl, rfl, by decide +kernel, rfl, by decide +kernel, by decide +kernel⟩
def body_antichains : En → Out := (seqF (dropD (mpF Sl.d (b1F m_check_order (consF (valF 0) (consF (valF 1) nilA))))) (retDF (b1F tupleD (mpF Dv.lst (compF (b1F seqDF (mpF Sl.d (b1F m_choices_below (consF (valF 0) nilA)))) [2] (putF 2) (notMF (b1F truF (b1F anyF (mpF Dv.lst (compF (b1F seqDF (lookF 1)) [3, 4] (tupF [(putF 3), (putF 4)]) yesT (andVF (mpF Dv.bl (b2F inDF (lookF 3) (lookF 2))) (mpF Dv.bl (b2F inDF (lookF 4) (lookF 2))))))))) (valF 2))))))
def m_antichains : List Dv → R Sl := funF 2 3 body_antichains
theorem ok_antichains (T : Tx S) : FdOk S 4 "antichains" 2 m_antichains := by
  have c_check_order := (ok_check_order T).le (show 3 ≤ 3 by omega)
  have c_choices_below := (ok_choices_below T).le (show 1 ≤ 3 by omega)
  refine FdOk.fast (fd_mk 3 2 3 body_antichains T.d_antichains sc_antichains rfl rfl ?_)
  unfold body_antichains
  try simp only [addF_eq, allF_eq, andMF_eq, andVF_eq, anyF_eq, b1F_eq, b2F_eq, comp2F_eq, compF_eq, consF_eq, eqDF_eq, forF_eq, geF_eq, gtF_eq, ifMF_eq, ifOF_eq, inDF_eq, itF_eq, ixF_eq, leF_eq, lenF_eq, lookF_eq, lsF_eq, ltF_eq, mpF_eq, neDF_eq, ninDF_eq, notMF_eq, notVF_eq, orMF_eq, orVF_eq, putF_eq, retDF_eq, retLF_eq, retXF_eq, rngF_eq, seqDF_eq, seqF_eq, setCF_eq, setDF_eq, setDMF_eq, setXF_eq, sortAllF_eq, sortDicF_eq, tpF_eq, truF_eq, tupF_eq, valF_eq, whileF_eq, chainF_eq, appF_eq]
  refine jss_cons ?_ ?_
  refine js_expr ?_
  refine jd_x ?_
  refine jx_call (c_check_order) ?_
  refine ja_cons ?_ ?_
  exact jd_v 0 (by decide +kernel)
  refine ja_cons ?_ ?_
  exact jd_v 1 (by decide +kernel)
  exact ja_nil
  refine jss_one ?_
  refine js_retD ?_
  refine jd_tuple T.b_tuple ?_
  refine jb_l ?_
  refine jl_comp (own := [("own", 2)]) ?_ (jg_n 2 (by decide +kernel)) ?_ ?_
  refine ji_seq ?_
  refine jb_x ?_
  refine jx_call (c_choices_below) ?_
  refine ja_cons ?_ ?_
  exact jd_v 0 (by decide +kernel)
  exact ja_nil
  refine jts_one ?_
  refine jt_not ?_
  refine jt_val ?_
  refine jb_d ?_
  refine jd_any T.b_any ?_
  refine jb_l ?_
  refine jl_comp (own := [("a", 3), ("b", 4)]) ?_ (jg_t (jgs_cons (jg_n 3 (by decide +kernel)) (jgs_cons (jg_n 4 (by decide +kernel)) jgs_nil))) ?_ ?_
  refine ji_seq ?_
  exact jb_v 1 (by decide +kernel)
  exact jts_nil
  refine jd_and ?_ ?_
  refine jd_j ?_
  refine jc_cmp .inn ?_ ?_ (by with_unfolding_all rfl)
  exact jb_v 3 (by decide +kernel)
  exact jb_v 2 (by decide +kernel)
  refine jd_one ?_
  refine jd_j ?_
  refine jc_cmp .inn ?_ ?_ (by with_unfolding_all rfl)
  exact jb_v 4 (by decide +kernel)
  exact jb_v 2 (by decide +kernel)
  exact jd_v 2 (by decide +kernel)

/-! extensions -/
def N_extensions : List Str := ["n", "pairs", "found", "_", "longer", "own", "x", "a", "b"]
theorem sc_extensions : FnScope N_extensions ["n", "pairs"] (defScope (topS 13)) := ⟨rfl, rfl, rfl, by decide +kernel, rfl, by decide +kernel, by decide +kernel⟩
def body_extensions : En → Out := (seqF (dropD (mpF Sl.d (b1F m_check_order (consF (valF 0) (consF (valF 1) nilA))))) (seqF (setDF 2 (mpF Dv.lst (lsF (consF (tpF nilA) nilA)))) (seqF (forF (b1F rngF (lookF 0)) (putF 3) (seqF (setXF 4 (mpF Sl.own (lsF nilA))) (seqF (forF (b1F seqDF (valF 2)) (putF 5) (forF (b1F rngF (lookF 0)) (putF 6) (ifOF (andMF (b2F ninDF (lookF 6) (lookF 5)) (b1F truF (b1F allF (mpF Dv.lst (compF (b1F seqDF (lookF 1)) [7, 8] (tupF [(putF 7), (putF 8)]) (b2F eqDF (lookF 8) (lookF 6)) (mpF Dv.bl (b2F inDF (lookF 7) (lookF 5)))))))) (appF 4 (mpF Sl.d (b2F addF (lookF 5) (tpF (consF (valF 6) nilA))))) .nx))) (setDF 2 (mpF Dv.lst (b1F itF (lookF 4))))))) (retDF (b1F tupleD (mpF Dv.lst (b1F sortAllF (lookF 2))))))))
def m_extensions : List Dv → R Sl := funF 2 7 body_extensions
theorem ok_extensions (T : Tx S) : FdOk S 4 "extensions" 2 m_extensions := by
  have c_check_order := (ok_check_order T).le (show 3 ≤ 3 by omega)
  refine FdOk.fast (fd_mk 3 2 7 body_extensions T.d_extensions sc_extensions rfl rfl ?_)
  unfold body_extensions
  try simp only [addF_eq, allF_eq, andMF_eq, andVF_eq, anyF_eq, b1F_eq, b2F_eq, comp2F_eq, compF_eq, consF_eq, eqDF_eq, forF_eq, geF_eq, gtF_eq, ifMF_eq, ifOF_eq, inDF_eq, itF_eq, ixF_eq, leF_eq, lenF_eq, lookF_eq, lsF_eq, ltF_eq, mpF_eq, neDF_eq, ninDF_eq, notMF_eq, notVF_eq, orMF_eq, orVF_eq, putF_eq, retDF_eq, retLF_eq, retXF_eq, rngF_eq, seqDF_eq, seqF_eq, setCF_eq, setDF_eq, setDMF_eq, setXF_eq, sortAllF_eq, sortDicF_eq, tpF_eq, truF_eq, tupF_eq, valF_eq, whileF_eq, chainF_eq, appF_eq]
  refine jss_cons ?_ ?_
  refine js_expr ?_
  refine jd_x ?_
  refine jx_call (c_check_order) ?_
  refine ja_cons ?_ ?_
  exact jd_v 0 (by decide +kernel)
  refine ja_cons ?_ ?_
  exact jd_v 1 (by decide +kernel)
  exact ja_nil
  refine jss_cons ?_ ?_
  refine js_setD 2 ?_
  refine jd_l ?_
  refine jl_lst ?_
  refine ja_cons ?_ ?_
  refine jd_tup ?_
  exact ja_nil
  exact ja_nil
  refine jss_cons ?_ ?_
  refine js_for ?_ (jg_n 3 (by decide +kernel)) ?_
  refine jif_rng1 T.b_range ?_
  exact jb_v 0 (by decide +kernel)
  refine jss_cons ?_ ?_
  refine js_setX 4 ?_
  refine jx_l ?_
  refine jl_lst ?_
  exact ja_nil
  refine jss_cons ?_ ?_
  refine js_for ?_ (jg_n 5 (by decide +kernel)) ?_
  refine jif_seq ?_
  exact jd_v 2 (by decide +kernel)
  refine jss_one ?_
  refine js_for ?_ (jg_n 6 (by decide +kernel)) ?_
  refine jif_rng1 T.b_range ?_
  exact jb_v 0 (by decide +kernel)
  refine jss_one ?_
  refine js_if ?_ ?_ ?_
  refine jt_w ?_
  refine jw_and ?_ ?_
  refine jt_cmp .nin ?_ ?_ (by with_unfolding_all rfl)
  exact jb_v 6 (by decide +kernel)
  exact jb_v 5 (by decide +kernel)
  refine jw_and1 ?_
  refine jt_val ?_
  refine jb_d ?_
  refine jd_all T.b_all ?_
  refine jb_l ?_
  refine jl_comp (own := [("a", 7), ("b", 8)]) ?_ (jg_t (jgs_cons (jg_n 7 (by decide +kernel)) (jgs_cons (jg_n 8 (by decide +kernel)) jgs_nil))) ?_ ?_
  refine ji_seq ?_
  exact jb_v 1 (by decide +kernel)
  refine jts_one ?_
  refine jt_cmp .eq ?_ ?_
  exact jb_v 8 (by decide +kernel)
  exact jb_v 6 (by decide +kernel)
  refine jd_j ?_
  refine jc_cmp .inn ?_ ?_ (by with_unfolding_all rfl)
  exact jb_v 7 (by decide +kernel)
  exact jb_v 5 (by decide +kernel)
  refine jss_one ?_
  refine js_exprE ?_
  refine je_append 4 ?_
  refine je_d ?_
  refine jd_x ?_
  refine jx_add ?_ ?_
  exact jb_v 5 (by decide +kernel)
  refine jb_d ?_
  refine jd_tup ?_
  refine ja_cons ?_ ?_
  exact jd_v 6 (by decide +kernel)
  exact ja_nil
  exact jss_nil
  refine jss_one ?_
  refine js_setD 2 ?_
  refine jd_l ?_
  refine jl_list T.b_list ?_
  exact jb_v 4 (by decide +kernel)
  refine jss_one ?_
  refine js_retD ?_
  refine jd_tuple T.b_tuple ?_
  refine jb_l ?_
  refine jl_sortAll T.b_sorted ?_
  exact jb_v 2 (by decide +kernel)

/-! natural -/
def N_natural : List Str := ["n", "pairs", "a", "b"]
theorem sc_natural : FnScope N_natural ["n", "pairs"] (defScope (topS 14)) := ⟨rfl, rfl, rfl, by decide +kernel, rfl, by decide +kernel, by decide +kernel⟩
def body_natural : En → Out := (seqF (dropD (mpF Sl.d (b1F m_check_order (consF (valF 0) (consF (valF 1) nilA))))) (retDF (b1F allF (mpF Dv.lst (compF (b1F seqDF (lookF 1)) [2, 3] (tupF [(putF 2), (putF 3)]) yesT (mpF Dv.bl (b2F ltF (lookF 2) (lookF 3))))))))
def m_natural : List Dv → R Sl := funF 2 2 body_natural
theorem ok_natural (T : Tx S) : FdOk S 4 "natural" 2 m_natural := by
  have c_check_order := (ok_check_order T).le (show 3 ≤ 3 by omega)
  refine FdOk.fast (fd_mk 3 2 2 body_natural T.d_natural sc_natural rfl rfl ?_)
  unfold body_natural
  try simp only [addF_eq, allF_eq, andMF_eq, andVF_eq, anyF_eq, b1F_eq, b2F_eq, comp2F_eq, compF_eq, consF_eq, eqDF_eq, forF_eq, geF_eq, gtF_eq, ifMF_eq, ifOF_eq, inDF_eq, itF_eq, ixF_eq, leF_eq, lenF_eq, lookF_eq, lsF_eq, ltF_eq, mpF_eq, neDF_eq, ninDF_eq, notMF_eq, notVF_eq, orMF_eq, orVF_eq, putF_eq, retDF_eq, retLF_eq, retXF_eq, rngF_eq, seqDF_eq, seqF_eq, setCF_eq, setDF_eq, setDMF_eq, setXF_eq, sortAllF_eq, sortDicF_eq, tpF_eq, truF_eq, tupF_eq, valF_eq, whileF_eq, chainF_eq, appF_eq]
  refine jss_cons ?_ ?_
  refine js_expr ?_
  refine jd_x ?_
  refine jx_call (c_check_order) ?_
  refine ja_cons ?_ ?_
  exact jd_v 0 (by decide +kernel)
  refine ja_cons ?_ ?_
  exact jd_v 1 (by decide +kernel)
  exact ja_nil
  refine jss_one ?_
  refine js_retD ?_
  refine jd_all T.b_all ?_
  refine jb_l ?_
  refine jl_comp (own := [("a", 2), ("b", 3)]) ?_ (jg_t (jgs_cons (jg_n 2 (by decide +kernel)) (jgs_cons (jg_n 3 (by decide +kernel)) jgs_nil))) ?_ ?_
  refine ji_seq ?_
  exact jb_v 1 (by decide +kernel)
  exact jts_nil
  refine jd_j ?_
  refine jc_cmp .lt ?_ ?_
  exact jb_v 2 (by decide +kernel)
  exact jb_v 3 (by decide +kernel)

/-! longest_chain -/
def N_longest_chain : List Str := ["n", "pairs", "best", "own", "a", "b"]
theorem sc_longest_chain : FnScope N_longest_chain ["n", "pairs"] (defScope (topS 15)) := ⟨rfl, rfl, rfl, by decide +kernel, rfl, by decide +kernel, by decide +kernel⟩
def body_longest_chain : En → Out := (seqF (dropD (mpF Sl.d (b1F m_check_order (consF (valF 0) (consF (valF 1) nilA))))) (seqF (setDF 2 (kc (.int 0))) (seqF (forF (b1F seqDF (mpF Sl.d (b1F m_choices_below (consF (valF 0) nilA)))) (putF 3) (ifOF (b1F truF (b1F allF (mpF Dv.lst (comp2F (b1F seqDF (lookF 3)) [4, 5] (putF 4) yesT (b1F seqDF (valF 3)) [5] (putF 5) (b2F ltF (lookF 4) (lookF 5)) (orVF (mpF Dv.bl (b2F inDF (tpF (consF (valF 4) (consF (valF 5) nilA))) (lookF 1))) (mpF Dv.bl (b2F inDF (tpF (consF (valF 5) (consF (valF 4) nilA))) (lookF 1)))))))) (setDF 2 (b2F maxD (lookF 2) (b1F lenF (lookF 3)))) .nx)) (retV 2))))
def m_longest_chain : List Dv → R Sl := funF 2 4 body_longest_chain
theorem ok_longest_chain (T : Tx S) : FdOk S 4 "longest_chain" 2 m_longest_chain := by
  have c_check_order := (ok_check_order T).le (show 3 ≤ 3 by omega)
  have c_choices_below := (ok_choices_below T).le (show 1 ≤ 3 by omega)
  refine FdOk.fast (fd_mk 3 2 4 body_longest_chain T.d_longest_chain sc_longest_chain rfl rfl ?_)
  unfold body_longest_chain
  try simp only [addF_eq, allF_eq, andMF_eq, andVF_eq, anyF_eq, b1F_eq, b2F_eq, comp2F_eq, compF_eq, consF_eq, eqDF_eq, forF_eq, geF_eq, gtF_eq, ifMF_eq, ifOF_eq, inDF_eq, itF_eq, ixF_eq, leF_eq, lenF_eq, lookF_eq, lsF_eq, ltF_eq, mpF_eq, neDF_eq, ninDF_eq, notMF_eq, notVF_eq, orMF_eq, orVF_eq, putF_eq, retDF_eq, retLF_eq, retXF_eq, rngF_eq, seqDF_eq, seqF_eq, setCF_eq, setDF_eq, setDMF_eq, setXF_eq, sortAllF_eq, sortDicF_eq, tpF_eq, truF_eq, tupF_eq, valF_eq, whileF_eq, chainF_eq, appF_eq]
  refine jss_cons ?_ ?_
  refine js_expr ?_
  refine jd_x ?_
  refine jx_call (c_check_order) ?_
  refine ja_cons ?_ ?_
  exact jd_v 0 (by decide +kernel)
  refine ja_cons ?_ ?_
  exact jd_v 1 (by decide +kernel)
  exact ja_nil
  refine jss_cons ?_ ?_
  refine js_setD 2 ?_
  exact jd_int
  refine jss_cons ?_ ?_
  refine js_for ?_ (jg_n 3 (by decide +kernel)) ?_
  refine jif_seq ?_
  refine jd_x ?_
  refine jx_call (c_choices_below) ?_
  refine ja_cons ?_ ?_
  exact jd_v 0 (by decide +kernel)
  exact ja_nil
  refine jss_one ?_
  refine js_if ?_ ?_ ?_
  refine jt_val ?_
  refine jb_d ?_
  refine jd_all T.b_all ?_
  refine jb_l ?_
  refine jl_comp2 (own := [("a", 4), ("b", 5)]) (vs1 := [5]) ?_ (jg_n 4 (by decide +kernel)) ?_ ?_ (jg_n 5 (by decide +kernel)) ?_ ?_
  refine ji_seq ?_
  exact jb_v 3 (by decide +kernel)
  exact jts_nil
  refine jif_seq ?_
  exact jd_v 3 (by decide +kernel)
  refine jts_one ?_
  refine jt_cmp .lt ?_ ?_
  exact jb_v 4 (by decide +kernel)
  exact jb_v 5 (by decide +kernel)
  refine jd_or ?_ ?_
  refine jd_j ?_
  refine jc_cmp .inn ?_ ?_ (by with_unfolding_all rfl)
  refine jb_d ?_
  refine jd_tup ?_
  refine ja_cons ?_ ?_
  exact jd_v 4 (by decide +kernel)
  refine ja_cons ?_ ?_
  exact jd_v 5 (by decide +kernel)
  exact ja_nil
  exact jb_v 1 (by decide +kernel)
  refine jd_one ?_
  refine jd_j ?_
  refine jc_cmp .inn ?_ ?_ (by with_unfolding_all rfl)
  refine jb_d ?_
  refine jd_tup ?_
  refine ja_cons ?_ ?_
  exact jd_v 5 (by decide +kernel)
  refine ja_cons ?_ ?_
  exact jd_v 4 (by decide +kernel)
  exact ja_nil
  exact jb_v 1 (by decide +kernel)
  refine jss_one ?_
  refine js_setD 2 ?_
  refine jd_max2 T.b_max ?_ ?_
  exact jb_v 2 (by decide +kernel)
  refine jb_d ?_
  refine jd_len T.b_len ?_
  exact jb_v 3 (by decide +kernel)
  exact jss_nil
  refine jss_one ?_
  exact js_retV 2

/-! covers -/
def N_covers : List Str := ["n", "pairs", "a", "b", "c"]
theorem sc_covers : FnScope N_covers ["n", "pairs"] (defScope (topS 16)) := ⟨rfl, rfl, rfl, by decide +kernel, rfl, by decide +kernel, by decide +kernel⟩
def body_covers : En → Out := (seqF (dropD (mpF Sl.d (b1F m_check_order (consF (valF 0) (consF (valF 1) nilA))))) (retDF (b1F tupleD (mpF Dv.lst (compF (b1F seqDF (lookF 1)) [2, 3] (tupF [(putF 2), (putF 3)]) (notMF (b1F truF (b1F anyF (mpF Dv.lst (compF (b1F rngF (lookF 0)) [4] (putF 4) yesT (andVF (mpF Dv.bl (b2F inDF (tpF (consF (valF 2) (consF (valF 4) nilA))) (lookF 1))) (mpF Dv.bl (b2F inDF (tpF (consF (valF 4) (consF (valF 3) nilA))) (lookF 1))))))))) (tpF (consF (valF 2) (consF (valF 3) nilA))))))))
def m_covers : List Dv → R Sl := funF 2 3 body_covers
theorem ok_covers (T : Tx S) : FdOk S 4 "covers" 2 m_covers := by
  have c_check_order := (ok_check_order T).le (show 3 ≤ 3 by omega)
  refine FdOk.fast (fd_mk 3 2 3 body_covers T.d_covers sc_covers rfl rfl ?_)
  unfold body_covers
  try simp only [addF_eq, allF_eq, andMF_eq, andVF_eq, anyF_eq, b1F_eq, b2F_eq, comp2F_eq, compF_eq, consF_eq, eqDF_eq, forF_eq, geF_eq, gtF_eq, ifMF_eq, ifOF_eq, inDF_eq, itF_eq, ixF_eq, leF_eq, lenF_eq, lookF_eq, lsF_eq, ltF_eq, mpF_eq, neDF_eq, ninDF_eq, notMF_eq, notVF_eq, orMF_eq, orVF_eq, putF_eq, retDF_eq, retLF_eq, retXF_eq, rngF_eq, seqDF_eq, seqF_eq, setCF_eq, setDF_eq, setDMF_eq, setXF_eq, sortAllF_eq, sortDicF_eq, tpF_eq, truF_eq, tupF_eq, valF_eq, whileF_eq, chainF_eq, appF_eq]
  refine jss_cons ?_ ?_
  refine js_expr ?_
  refine jd_x ?_
  refine jx_call (c_check_order) ?_
  refine ja_cons ?_ ?_
  exact jd_v 0 (by decide +kernel)
  refine ja_cons ?_ ?_
  exact jd_v 1 (by decide +kernel)
  exact ja_nil
  refine jss_one ?_
  refine js_retD ?_
  refine jd_tuple T.b_tuple ?_
  refine jb_l ?_
  refine jl_comp (own := [("a", 2), ("b", 3)]) ?_ (jg_t (jgs_cons (jg_n 2 (by decide +kernel)) (jgs_cons (jg_n 3 (by decide +kernel)) jgs_nil))) ?_ ?_
  refine ji_seq ?_
  exact jb_v 1 (by decide +kernel)
  refine jts_one ?_
  refine jt_not ?_
  refine jt_val ?_
  refine jb_d ?_
  refine jd_any T.b_any ?_
  refine jb_l ?_
  refine jl_comp (own := [("c", 4)]) ?_ (jg_n 4 (by decide +kernel)) ?_ ?_
  refine ji_f ?_
  refine jif_rng1 T.b_range ?_
  exact jb_v 0 (by decide +kernel)
  exact jts_nil
  refine jd_and ?_ ?_
  refine jd_j ?_
  refine jc_cmp .inn ?_ ?_ (by with_unfolding_all rfl)
  refine jb_d ?_
  refine jd_tup ?_
  refine ja_cons ?_ ?_
  exact jd_v 2 (by decide +kernel)
  refine ja_cons ?_ ?_
  exact jd_v 4 (by decide +kernel)
  exact ja_nil
  exact jb_v 1 (by decide +kernel)
  refine jd_one ?_
  refine jd_j ?_
  refine jc_cmp .inn ?_ ?_ (by with_unfolding_all rfl)
  refine jb_d ?_
  refine jd_tup ?_
  refine ja_cons ?_ ?_
  exact jd_v 4 (by decide +kernel)
  refine ja_cons ?_ ?_
  exact jd_v 3 (by decide +kernel)
  exact ja_nil
  exact jb_v 1 (by decide +kernel)
  refine jd_tup ?_
  refine ja_cons ?_ ?_
  exact jd_v 2 (by decide +kernel)
  refine ja_cons ?_ ?_
  exact jd_v 3 (by decide +kernel)
  exact ja_nil

/-! closed_order -/
def N_closed_order : List Str := ["n", "pairs", "found", "own", "x", "c", "below", "a", "b", "above", "made"]
theorem sc_closed_order : FnScope N_closed_order ["n", "pairs"] (defScope (topS 17)) := ⟨rfl, rfl, rfl, by decide +kernel, rfl, by decide +kernel, by decide +kernel⟩
def body_closed_order : En → Out := (seqF (ifOF (orMF (notMF (b1F truF (mpF Sl.d (b1F m_is_integer (consF (valF 0) nilA))))) (orMF (notMF (chainF leF leF (kc (.int 1)) (lookF 0) (kc (.int 4)))) (notMF (b1F truF (mpF Dv.bl (b1F (isi2D .list .tuple) (lookF 1))))))) (errM 0) .nx) (seqF (newDic 2) (seqF (forF (b1F seqDF (valF 1)) (putF 3) (seqF (ifOF (orMF (notMF (b1F truF (mpF Dv.bl (b1F (isiD .tuple) (lookF 3))))) (orMF (b2F neDF (b1F lenF (lookF 3)) (kc (.int 2))) (notMF (b1F truF (b1F allF (mpF Dv.lst (compF (b1F seqDF (lookF 3)) [4] (putF 4) yesT (andVF (mpF Sl.d (b1F m_is_integer (consF (valF 4) nilA))) (mpF Dv.bl (chainF leF ltF (kc (.int 0)) (lookF 4) (lookF 0))))))))))) (errM 0) .nx) (setDMF 2 (valF 3) (kc (.bl true))))) (seqF (forF (b1F rngF (lookF 0)) (putF 5) (seqF (setCF true 6 (compF (b1F seqDF (mpF Dv.lst (sortDicF 2))) [7, 8] (tupF [(putF 7), (putF 8)]) (b2F eqDF (lookF 8) (lookF 5)) (valF 7))) (seqF (setCF true 9 (compF (b1F seqDF (mpF Dv.lst (sortDicF 2))) [7, 8] (tupF [(putF 7), (putF 8)]) (b2F eqDF (lookF 7) (lookF 5)) (valF 8))) (forF (b1F seqDF (valF 6)) (putF 7) (forF (b1F seqDF (valF 9)) (putF 8) (setDMF 2 (tpF (consF (valF 7) (consF (valF 8) nilA))) (kc (.bl true)))))))) (seqF (setDF 10 (b1F tupleD (mpF Dv.lst (sortDicF 2)))) (seqF (dropD (mpF Sl.d (b1F m_check_order (consF (valF 0) (consF (valF 10) nilA))))) (retV 10)))))))
def m_closed_order : List Dv → R Sl := funF 2 9 body_closed_order
theorem ok_closed_order (T : Tx S) : FdOk S 4 "closed_order" 2 m_closed_order := by
  have c_check_order := (ok_check_order T).le (show 3 ≤ 3 by omega)
  have c_is_integer := (ok_is_integer T).le (show 1 ≤ 3 by omega)
  refine FdOk.fast (fd_mk 3 2 9 body_closed_order T.d_closed_order sc_closed_order rfl rfl ?_)
  unfold body_closed_order
  try simp only [addF_eq, allF_eq, andMF_eq, andVF_eq, anyF_eq, b1F_eq, b2F_eq, comp2F_eq, compF_eq, consF_eq, eqDF_eq, forF_eq, geF_eq, gtF_eq, ifMF_eq, ifOF_eq, inDF_eq, itF_eq, ixF_eq, leF_eq, lenF_eq, lookF_eq, lsF_eq, ltF_eq, mpF_eq, neDF_eq, ninDF_eq, notMF_eq, notVF_eq, orMF_eq, orVF_eq, putF_eq, retDF_eq, retLF_eq, retXF_eq, rngF_eq, seqDF_eq, seqF_eq, setCF_eq, setDF_eq, setDMF_eq, setXF_eq, sortAllF_eq, sortDicF_eq, tpF_eq, truF_eq, tupF_eq, valF_eq, whileF_eq, chainF_eq, appF_eq]
  refine jss_cons ?_ ?_
  refine js_if ?_ ?_ ?_
  refine jt_w ?_
  refine jw_or ?_ ?_
  refine jt_not ?_
  refine jt_val ?_
  refine jb_x ?_
  refine jx_call (c_is_integer) ?_
  refine ja_cons ?_ ?_
  exact jd_v 0 (by decide +kernel)
  exact ja_nil
  refine jw_or ?_ ?_
  refine jt_not ?_
  refine jt_chain .le .le ?_ ?_ ?_
  refine jb_d ?_
  exact jd_int
  exact jb_v 0 (by decide +kernel)
  refine jb_d ?_
  exact jd_num T.n_MOST_ITEMS
  refine jw_or1 ?_
  refine jt_not ?_
  refine jt_val ?_
  refine jb_d ?_
  refine jd_j ?_
  refine jc_isi2 .list .tuple T.b_isinstance T.b_list T.b_tuple ?_
  exact jb_v 1 (by decide +kernel)
  refine jss_one ?_
  exact js_raise T.x_Malformed
  exact jss_nil
  refine jss_cons ?_ ?_
  exact js_dicNew 2
  refine jss_cons ?_ ?_
  refine js_for ?_ (jg_n 3 (by decide +kernel)) ?_
  refine jif_seq ?_
  exact jd_v 1 (by decide +kernel)
  refine jss_cons ?_ ?_
  refine js_if ?_ ?_ ?_
  refine jt_w ?_
  refine jw_or ?_ ?_
  refine jt_not ?_
  refine jt_val ?_
  refine jb_d ?_
  refine jd_j ?_
  refine jc_isi .tuple T.b_isinstance T.b_tuple ?_
  exact jb_v 3 (by decide +kernel)
  refine jw_or ?_ ?_
  refine jt_cmp .ne ?_ ?_
  refine jb_d ?_
  refine jd_len T.b_len ?_
  exact jb_v 3 (by decide +kernel)
  refine jb_d ?_
  exact jd_int
  refine jw_or1 ?_
  refine jt_not ?_
  refine jt_val ?_
  refine jb_d ?_
  refine jd_all T.b_all ?_
  refine jb_l ?_
  refine jl_comp (own := [("x", 4)]) ?_ (jg_n 4 (by decide +kernel)) ?_ ?_
  refine ji_seq ?_
  exact jb_v 3 (by decide +kernel)
  exact jts_nil
  refine jd_and ?_ ?_
  refine jd_x ?_
  refine jx_call (c_is_integer) ?_
  refine ja_cons ?_ ?_
  exact jd_v 4 (by decide +kernel)
  exact ja_nil
  refine jd_one ?_
  refine jd_j ?_
  refine jc_chain .le .lt ?_ ?_ ?_
  refine jb_d ?_
  exact jd_int
  exact jb_v 4 (by decide +kernel)
  exact jb_v 0 (by decide +kernel)
  refine jss_one ?_
  exact js_raise T.x_Malformed
  exact jss_nil
  refine jss_one ?_
  refine js_dicSet 2 ?_ ?_
  exact jd_bl
  exact jd_v 3 (by decide +kernel)
  refine jss_cons ?_ ?_
  refine js_for ?_ (jg_n 5 (by decide +kernel)) ?_
  refine jif_rng1 T.b_range ?_
  exact jb_v 0 (by decide +kernel)
  refine jss_cons ?_ ?_
  refine js_comp true 6 (own := [("a", 7), ("b", 8)]) ?_ (jg_t (jgs_cons (jg_n 7 (by decide +kernel)) (jgs_cons (jg_n 8 (by decide +kernel)) jgs_nil))) ?_ ?_
  refine ji_seq ?_
  refine jb_l ?_
  exact jl_sortedDic 2 T.b_sorted
  refine jts_one ?_
  refine jt_cmp .eq ?_ ?_
  exact jb_v 8 (by decide +kernel)
  exact jb_v 5 (by decide +kernel)
  exact jd_v 7 (by decide +kernel)
  refine jss_cons ?_ ?_
  refine js_comp true 9 (own := [("a", 7), ("b", 8)]) ?_ (jg_t (jgs_cons (jg_n 7 (by decide +kernel)) (jgs_cons (jg_n 8 (by decide +kernel)) jgs_nil))) ?_ ?_
  refine ji_seq ?_
  refine jb_l ?_
  exact jl_sortedDic 2 T.b_sorted
  refine jts_one ?_
  refine jt_cmp .eq ?_ ?_
  exact jb_v 7 (by decide +kernel)
  exact jb_v 5 (by decide +kernel)
  exact jd_v 8 (by decide +kernel)
  refine jss_one ?_
  refine js_for ?_ (jg_n 7 (by decide +kernel)) ?_
  refine jif_seq ?_
  exact jd_v 6 (by decide +kernel)
  refine jss_one ?_
  refine js_for ?_ (jg_n 8 (by decide +kernel)) ?_
  refine jif_seq ?_
  exact jd_v 9 (by decide +kernel)
  refine jss_one ?_
  refine js_dicSet 2 ?_ ?_
  exact jd_bl
  refine jd_tup ?_
  refine ja_cons ?_ ?_
  exact jd_v 7 (by decide +kernel)
  refine ja_cons ?_ ?_
  exact jd_v 8 (by decide +kernel)
  exact ja_nil
  refine jss_cons ?_ ?_
  refine js_setD 10 ?_
  refine jd_tuple T.b_tuple ?_
  refine jb_l ?_
  exact jl_sortedDic 2 T.b_sorted
  refine jss_cons ?_ ?_
  refine js_expr ?_
  refine jd_x ?_
  refine jx_call (c_check_order) ?_
  refine ja_cons ?_ ?_
  exact jd_v 0 (by decide +kernel)
  refine ja_cons ?_ ?_
  exact jd_v 10 (by decide +kernel)
  exact ja_nil
  refine jss_one ?_
  exact js_retV 10

/-! _law_state -/
def N__law_state : List Str := ["script", "seed", "total", "cell"]
theorem sc__law_state : FnScope N__law_state ["script"] (defScope (topS 19)) := ⟨rfl, rfl, rfl, by decide +kernel, rfl, by decide +kernel, by decide +kernel⟩
def st_b : Dv → En → R En := (putM 3)
def st_body : En → Out := (seqO (setD 1 (mp Sl.d (b2 addD (mp Sl.d (b2 mulD (lookAt 1) (kc (.int 1000003)))) (b1 absD (lookAt 3))))) (setD 2 (b2 modD (b1 intD (mp Sl.d (b2 addD (mp Sl.d (b2 mulD (lookAt 2) (kc (.int 48271)))) (lookAt 3)))) (kc (.int 2147483647)))))
def st_ret : En → Out := (retL (lstV (consM (valAt 1) (consM (ifM (b2 (CmpK.fd .ne) (lookAt 2) (kc (.int 1973665155))) (valAt 2) (kc (.int 7))) nilA))))
theorem ok_state (T : Tx S) (step : StStep st_b st_body) (fin : StFin st_ret) : SdOk S 1 := by
  refine sd_of (b := st_b) (mb := st_body) (m4 := st_ret) (idx := [3]) T.d__law_state sc__law_state rfl rfl (by decide +kernel) (by decide +kernel) (by decide +kernel) ?_ ?_ ?_ step fin
  exact jg_n 3 (by decide +kernel)
  refine jss_cons ?_ ?_
  refine js_setD 1 ?_
  refine jd_x ?_
  refine jx_add ?_ ?_
  refine jb_x ?_
  refine jx_mul ?_ ?_
  exact jb_v 1 (by decide +kernel)
  refine jb_d ?_
  exact jd_int
  refine jb_d ?_
  refine jd_abs T.b_abs ?_
  exact jb_v 3 (by decide +kernel)
  refine jss_one ?_
  refine js_setD 2 ?_
  refine jd_mod ?_ ?_
  refine jb_d ?_
  refine jd_toint T.b_int ?_
  refine jb_x ?_
  refine jx_add ?_ ?_
  refine jb_x ?_
  refine jx_mul ?_ ?_
  exact jb_v 2 (by decide +kernel)
  refine jb_d ?_
  exact jd_int
  exact jb_v 3 (by decide +kernel)
  refine jb_d ?_
  exact jd_int
  refine js_retL ?_
  refine jl_lst ?_
  refine ja_cons ?_ ?_
  exact jd_v 1 (by decide +kernel)
  refine ja_cons ?_ ?_
  refine j_if anti_D ?_ ?_ ?_
  refine jt_cmp .ne ?_ ?_
  exact jb_v 2 (by decide +kernel)
  refine jb_d ?_
  exact jd_int
  exact jd_v 2 (by decide +kernel)
  exact jd_int
  exact ja_nil

/-! _law_take -/
def N__law_take : List Str := ["state", "m", "value"]
theorem sc__law_take : FnScope N__law_take ["state", "m"] (defScope (topS 20)) := ⟨rfl, rfl, rfl, by decide +kernel, rfl, by decide +kernel, by decide +kernel⟩
def body__law_take : En → Out := (seqO (ifO (b2 (CmpK.fd .gt) (stAt 0 0) (kc (.int 0))) (seqO (setD 2 (b2 modD (b1 intD (stAt 0 0)) (lookAt 1))) (seqO (stS 0 0 (b2 fdivD (stAt 0 0) (lookAt 1))) (retV 2))) .nx) (seqO (stS 0 1 (b2 modD (b1 intD (mp Sl.d (b2 addD (mp Sl.d (b2 mulD (stAt 0 1) (kc (.int 48271)))) (kc (.int 11))))) (kc (.int 2147483647)))) (retD (b2 modD (b1 intD (b2 fdivD (stAt 0 1) (kc (.int 7)))) (lookAt 1)))))
def m__law_take : Int → Int → List Dv → R (Dv × Int × Int) := funT 1 1 body__law_take
theorem ok__law_take (T : Tx S) : FtOk S 1 "_law_take" 1 m__law_take := by
  refine ft_mk 0 1 1 body__law_take T.d__law_take sc__law_take rfl rfl fun p => ?_
  refine jss_cons ?_ ?_
  refine js_if ?_ ?_ ?_
  refine jt_cmp .gt ?_ ?_
  refine jb_d ?_
  exact jd_stAt 0
  refine jb_d ?_
  exact jd_int
  refine jss_cons ?_ ?_
  refine js_setD 2 ?_
  refine jd_mod ?_ ?_
  refine jb_d ?_
  refine jd_toint T.b_int ?_
  refine jb_d ?_
  exact jd_stAt 0
  exact jb_v 1 (by decide +kernel)
  refine jss_cons ?_ ?_
  refine js_stSet 0 ?_
  refine jd_fdiv ?_ ?_
  refine jb_d ?_
  exact jd_stAt 0
  exact jb_v 1 (by decide +kernel)
  refine jss_one ?_
  exact js_retV 2
  exact jss_nil
  refine jss_cons ?_ ?_
  refine js_stSet 0 ?_
  refine jd_mod ?_ ?_
  refine jb_d ?_
  refine jd_toint T.b_int ?_
  refine jb_x ?_
  refine jx_add ?_ ?_
  refine jb_x ?_
  refine jx_mul ?_ ?_
  refine jb_d ?_
  exact jd_stAt 0
  refine jb_d ?_
  exact jd_int
  refine jb_d ?_
  exact jd_int
  refine jb_d ?_
  exact jd_int
  refine jss_one ?_
  refine js_retD ?_
  refine jd_mod ?_ ?_
  refine jb_d ?_
  refine jd_toint T.b_int ?_
  refine jb_d ?_
  refine jd_fdiv ?_ ?_
  refine jb_d ?_
  exact jd_stAt 0
  refine jb_d ?_
  exact jd_int
  exact jb_v 1 (by decide +kernel)

/-! _law_is_whole -/
def N__law_is_whole : List Str := ["value"]
theorem sc__law_is_whole : FnScope N__law_is_whole ["value"] (defScope (topS 21)) := ⟨rfl, rfl, rfl, by decide +kernel, rfl, by decide +kernel, by decide +kernel⟩
def body__law_is_whole : En → Out := (retDF (andVF (mpF Dv.bl (b1F (isiD .int) (lookF 0))) (notVF (mpF Dv.bl (b1F (isiD .bool) (lookF 0))))))
def m__law_is_whole : List Dv → R Sl := funF 1 0 body__law_is_whole
theorem ok__law_is_whole (T : Tx S) : FdOk S 1 "_law_is_whole" 1 m__law_is_whole := by
  refine FdOk.fast (fd_mk 0 1 0 body__law_is_whole T.d__law_is_whole sc__law_is_whole rfl rfl ?_)
  unfold body__law_is_whole
  try simp only [addF_eq, allF_eq, andMF_eq, andVF_eq, anyF_eq, b1F_eq, b2F_eq, comp2F_eq, compF_eq, consF_eq, eqDF_eq, forF_eq, geF_eq, gtF_eq, ifMF_eq, ifOF_eq, inDF_eq, itF_eq, ixF_eq, leF_eq, lenF_eq, lookF_eq, lsF_eq, ltF_eq, mpF_eq, neDF_eq, ninDF_eq, notMF_eq, notVF_eq, orMF_eq, orVF_eq, putF_eq, retDF_eq, retLF_eq, retXF_eq, rngF_eq, seqDF_eq, seqF_eq, setCF_eq, setDF_eq, setDMF_eq, setXF_eq, sortAllF_eq, sortDicF_eq, tpF_eq, truF_eq, tupF_eq, valF_eq, whileF_eq, chainF_eq, appF_eq]
  refine jss_one ?_
  refine js_retD ?_
  refine jd_and ?_ ?_
  refine jd_j ?_
  refine jc_isi .int T.b_isinstance T.b_int ?_
  exact jb_v 0 (by decide +kernel)
  refine jd_one ?_
  refine jd_not ?_
  refine jd_j ?_
  refine jc_isi .bool T.b_isinstance T.b_bool ?_
  exact jb_v 0 (by decide +kernel)

/-! _law_same -/
def N__law_same : List Str := ["one", "two", "k"]
theorem sc__law_same : FnScope N__law_same ["one", "two"] (defScope (topS 22)) := ⟨rfl, rfl, rfl, by decide +kernel, rfl, by decide +kernel, by decide +kernel⟩
def body__law_same (rec : List Dv → R Sl) : En → Out := (seqF (ifOF (b1F truF (mpF Dv.bl (b1F (isiD .tuple) (lookF 1)))) (retDF (andVF (mpF Dv.bl (b1F (isiD .tuple) (lookF 0))) (andVF (mpF Dv.bl (b2F eqDF (b1F lenF (lookF 0)) (b1F lenF (lookF 1)))) (b1F allF (mpF Dv.lst (compF (b1F rngF (b1F lenF (lookF 1))) [2] (putF 2) yesT (mpF Sl.d (b1F rec (consF (b2F ixF (lookF 0) (lookF 2)) (consF (b2F ixF (lookF 1) (lookF 2)) nilA)))))))))) .nx) (seqF (ifOF (b1F truF (mpF Dv.bl (b1F (isiD .list) (lookF 1)))) (retDF (andVF (mpF Dv.bl (b1F (isiD .list) (lookF 0))) (andVF (mpF Dv.bl (b2F eqDF (b1F lenF (lookF 0)) (b1F lenF (lookF 1)))) (b1F allF (mpF Dv.lst (compF (b1F rngF (b1F lenF (lookF 1))) [2] (putF 2) yesT (mpF Sl.d (b1F rec (consF (b2F ixF (lookF 0) (lookF 2)) (consF (b2F ixF (lookF 1) (lookF 2)) nilA)))))))))) .nx) (seqF (ifOF (b1F truF (mpF Dv.bl (b1F (isiD .bool) (lookF 1)))) (retDF (andVF (mpF Dv.bl (b1F (isiD .bool) (lookF 0))) (mpF Dv.bl (b2F eqDF (lookF 0) (lookF 1))))) .nx) (seqF (ifOF (b1F truF (mpF Dv.bl (b1F (isiD .str) (lookF 1)))) (retDF (andVF (mpF Dv.bl (b1F (isiD .str) (lookF 0))) (mpF Dv.bl (b2F eqDF (lookF 0) (lookF 1))))) .nx) (seqF (ifOF (b1F okN (lookF 1)) (retDF (mpF Dv.bl (b1F okN (lookF 0)))) .nx) (retDF (andVF (mpF Sl.d (b1F m__law_is_whole (consF (valF 0) nilA))) (mpF Dv.bl (b2F eqDF (lookF 0) (lookF 1))))))))))
def m__law_same (n : Nat) : List Dv → R Sl := Nat.rec (motive := fun _ => List Dv → R Sl) (fun _ => .stuck) (fun _ ih => funF 2 1 (body__law_same ih)) n
theorem ok__law_same (T : Tx S) : ∀ n, FdOk S (1 + n) "_law_same" 2 (m__law_same n)
  | 0 => fd_stuck T.d__law_same
  | n + 1 => by
    have c__law_same := ok__law_same T n
    have c__law_is_whole := (ok__law_is_whole T).le (show 1 ≤ 1 + n by omega)
    refine FdOk.fast (fd_mk (1 + n) 2 1 (body__law_same (m__law_same n)) T.d__law_same sc__law_same rfl rfl ?_)
    unfold body__law_same
    try simp only [addF_eq, allF_eq, andMF_eq, andVF_eq, anyF_eq, b1F_eq, b2F_eq, comp2F_eq, compF_eq, consF_eq, eqDF_eq, forF_eq, geF_eq, gtF_eq, ifMF_eq, ifOF_eq, inDF_eq, itF_eq, ixF_eq, leF_eq, lenF_eq, lookF_eq, lsF_eq, ltF_eq, mpF_eq, neDF_eq, ninDF_eq, notMF_eq, notVF_eq, orMF_eq, orVF_eq, putF_eq, retDF_eq, retLF_eq, retXF_eq, rngF_eq, seqDF_eq, seqF_eq, setCF_eq, setDF_eq, setDMF_eq, setXF_eq, sortAllF_eq, sortDicF_eq, tpF_eq, truF_eq, tupF_eq, valF_eq, whileF_eq, chainF_eq, appF_eq]
    refine jss_cons ?_ ?_
    refine js_if ?_ ?_ ?_
    refine jt_val ?_
    refine jb_d ?_
    refine jd_j ?_
    refine jc_isi .tuple T.b_isinstance T.b_tuple ?_
    exact jb_v 1 (by decide +kernel)
    refine jss_one ?_
    refine js_retD ?_
    refine jd_and ?_ ?_
    refine jd_j ?_
    refine jc_isi .tuple T.b_isinstance T.b_tuple ?_
    exact jb_v 0 (by decide +kernel)
    refine jd_and ?_ ?_
    refine jd_j ?_
    refine jc_cmp .eq ?_ ?_
    refine jb_d ?_
    refine jd_len T.b_len ?_
    exact jb_v 0 (by decide +kernel)
    refine jb_d ?_
    refine jd_len T.b_len ?_
    exact jb_v 1 (by decide +kernel)
    refine jd_one ?_
    refine jd_all T.b_all ?_
    refine jb_l ?_
    refine jl_comp (own := [("k", 2)]) ?_ (jg_n 2 (by decide +kernel)) ?_ ?_
    refine ji_f ?_
    refine jif_rng1 T.b_range ?_
    refine jb_d ?_
    refine jd_len T.b_len ?_
    exact jb_v 1 (by decide +kernel)
    exact jts_nil
    refine jd_x ?_
    refine jx_call (c__law_same) ?_
    refine ja_cons ?_ ?_
    refine jd_ix ?_ ?_
    exact jb_v 0 (by decide +kernel)
    exact jb_v 2 (by decide +kernel)
    refine ja_cons ?_ ?_
    refine jd_ix ?_ ?_
    exact jb_v 1 (by decide +kernel)
    exact jb_v 2 (by decide +kernel)
    exact ja_nil
    exact jss_nil
    refine jss_cons ?_ ?_
    refine js_if ?_ ?_ ?_
    refine jt_val ?_
    refine jb_d ?_
    refine jd_j ?_
    refine jc_isi .list T.b_isinstance T.b_list ?_
    exact jb_v 1 (by decide +kernel)
    refine jss_one ?_
    refine js_retD ?_
    refine jd_and ?_ ?_
    refine jd_j ?_
    refine jc_isi .list T.b_isinstance T.b_list ?_
    exact jb_v 0 (by decide +kernel)
    refine jd_and ?_ ?_
    refine jd_j ?_
    refine jc_cmp .eq ?_ ?_
    refine jb_d ?_
    refine jd_len T.b_len ?_
    exact jb_v 0 (by decide +kernel)
    refine jb_d ?_
    refine jd_len T.b_len ?_
    exact jb_v 1 (by decide +kernel)
    refine jd_one ?_
    refine jd_all T.b_all ?_
    refine jb_l ?_
    refine jl_comp (own := [("k", 2)]) ?_ (jg_n 2 (by decide +kernel)) ?_ ?_
    refine ji_f ?_
    refine jif_rng1 T.b_range ?_
    refine jb_d ?_
    refine jd_len T.b_len ?_
    exact jb_v 1 (by decide +kernel)
    exact jts_nil
    refine jd_x ?_
    refine jx_call (c__law_same) ?_
    refine ja_cons ?_ ?_
    refine jd_ix ?_ ?_
    exact jb_v 0 (by decide +kernel)
    exact jb_v 2 (by decide +kernel)
    refine ja_cons ?_ ?_
    refine jd_ix ?_ ?_
    exact jb_v 1 (by decide +kernel)
    exact jb_v 2 (by decide +kernel)
    exact ja_nil
    exact jss_nil
    refine jss_cons ?_ ?_
    refine js_if ?_ ?_ ?_
    refine jt_val ?_
    refine jb_d ?_
    refine jd_j ?_
    refine jc_isi .bool T.b_isinstance T.b_bool ?_
    exact jb_v 1 (by decide +kernel)
    refine jss_one ?_
    refine js_retD ?_
    refine jd_and ?_ ?_
    refine jd_j ?_
    refine jc_isi .bool T.b_isinstance T.b_bool ?_
    exact jb_v 0 (by decide +kernel)
    refine jd_one ?_
    refine jd_j ?_
    refine jc_cmp .eq ?_ ?_
    exact jb_v 0 (by decide +kernel)
    exact jb_v 1 (by decide +kernel)
    exact jss_nil
    refine jss_cons ?_ ?_
    refine js_if ?_ ?_ ?_
    refine jt_val ?_
    refine jb_d ?_
    refine jd_j ?_
    refine jc_isi .str T.b_isinstance T.b_str ?_
    exact jb_v 1 (by decide +kernel)
    refine jss_one ?_
    refine js_retD ?_
    refine jd_and ?_ ?_
    refine jd_j ?_
    refine jc_isi .str T.b_isinstance T.b_str ?_
    exact jb_v 0 (by decide +kernel)
    refine jd_one ?_
    refine jd_j ?_
    refine jc_cmp .eq ?_ ?_
    exact jb_v 0 (by decide +kernel)
    exact jb_v 1 (by decide +kernel)
    exact jss_nil
    refine jss_cons ?_ ?_
    refine js_if ?_ ?_ ?_
    refine jt_isN ?_
    exact jb_v 1 (by decide +kernel)
    refine jss_one ?_
    refine js_retD ?_
    refine jd_j ?_
    refine jc_isN ?_
    exact jb_v 0 (by decide +kernel)
    exact jss_nil
    refine jss_one ?_
    refine js_retD ?_
    refine jd_and ?_ ?_
    refine jd_x ?_
    refine jx_call (c__law_is_whole) ?_
    refine ja_cons ?_ ?_
    exact jd_v 0 (by decide +kernel)
    exact ja_nil
    refine jd_one ?_
    refine jd_j ?_
    refine jc_cmp .eq ?_ ?_
    exact jb_v 0 (by decide +kernel)
    exact jb_v 1 (by decide +kernel)

/-! _law_says -/
def N__law_says : List Str := ["value", "due"]
theorem sc__law_says : FnScope N__law_says ["value", "due"] (defScope (topS 23)) := ⟨rfl, rfl, rfl, by decide +kernel, rfl, by decide +kernel, by decide +kernel⟩
def body__law_says : En → Out := (retDF (andVF (mpF Dv.bl (b1F (isiD .bool) (lookF 0))) (mpF Dv.bl (b2F eqDF (lookF 0) (lookF 1)))))
def m__law_says : List Dv → R Sl := funF 2 0 body__law_says
theorem ok__law_says (T : Tx S) : FdOk S 1 "_law_says" 2 m__law_says := by
  refine FdOk.fast (fd_mk 0 2 0 body__law_says T.d__law_says sc__law_says rfl rfl ?_)
  unfold body__law_says
  try simp only [addF_eq, allF_eq, andMF_eq, andVF_eq, anyF_eq, b1F_eq, b2F_eq, comp2F_eq, compF_eq, consF_eq, eqDF_eq, forF_eq, geF_eq, gtF_eq, ifMF_eq, ifOF_eq, inDF_eq, itF_eq, ixF_eq, leF_eq, lenF_eq, lookF_eq, lsF_eq, ltF_eq, mpF_eq, neDF_eq, ninDF_eq, notMF_eq, notVF_eq, orMF_eq, orVF_eq, putF_eq, retDF_eq, retLF_eq, retXF_eq, rngF_eq, seqDF_eq, seqF_eq, setCF_eq, setDF_eq, setDMF_eq, setXF_eq, sortAllF_eq, sortDicF_eq, tpF_eq, truF_eq, tupF_eq, valF_eq, whileF_eq, chainF_eq, appF_eq]
  refine jss_one ?_
  refine js_retD ?_
  refine jd_and ?_ ?_
  refine jd_j ?_
  refine jc_isi .bool T.b_isinstance T.b_bool ?_
  exact jb_v 0 (by decide +kernel)
  refine jd_one ?_
  refine jd_j ?_
  refine jc_cmp .eq ?_ ?_
  exact jb_v 0 (by decide +kernel)
  exact jb_v 1 (by decide +kernel)

/-! _law_picks -/
def N__law_picks : List Str := ["n", "k", "found", "turn", "longer", "own", "x"]
theorem sc__law_picks : FnScope N__law_picks ["n", "k"] (defScope (topS 24)) := ⟨rfl, rfl, rfl, by decide +kernel, rfl, by decide +kernel, by decide +kernel⟩
def body__law_picks : En → Out := (seqF (setDF 2 (mpF Dv.lst (lsF (consF (tpF nilA) nilA)))) (seqF (forF (b1F rngF (lookF 1)) (putF 3) (seqF (setDF 4 (mpF Dv.lst (lsF nilA))) (seqF (forF (b1F seqDF (valF 2)) (putF 5) (setDF 4 (mpF Sl.d (b2F addF (lookF 4) (mpF Dv.lst (compF (b2F rng2D (mpF Sl.d (ifMF (b2F gtF (b1F lenF (lookF 5)) (kc (.int 0))) (b2F addF (b2F ixF (lookF 5) (b1F negD (kc (.int 1)))) (kc (.int 1))) (mpF Sl.val (kc (.int 0))))) (lookF 0)) [6] (putF 6) yesT (mpF Sl.d (b2F addF (lookF 5) (tpF (consF (valF 6) nilA)))))))))) (setDF 2 (mpF Dv.lst (b1F itF (lookF 4))))))) (retV 2)))
def m__law_picks : List Dv → R Sl := funF 2 5 body__law_picks
theorem ok__law_picks (T : Tx S) : FdOk S 1 "_law_picks" 2 m__law_picks := by
  refine FdOk.fast (fd_mk 0 2 5 body__law_picks T.d__law_picks sc__law_picks rfl rfl ?_)
  unfold body__law_picks
  try simp only [addF_eq, allF_eq, andMF_eq, andVF_eq, anyF_eq, b1F_eq, b2F_eq, comp2F_eq, compF_eq, consF_eq, eqDF_eq, forF_eq, geF_eq, gtF_eq, ifMF_eq, ifOF_eq, inDF_eq, itF_eq, ixF_eq, leF_eq, lenF_eq, lookF_eq, lsF_eq, ltF_eq, mpF_eq, neDF_eq, ninDF_eq, notMF_eq, notVF_eq, orMF_eq, orVF_eq, putF_eq, retDF_eq, retLF_eq, retXF_eq, rngF_eq, seqDF_eq, seqF_eq, setCF_eq, setDF_eq, setDMF_eq, setXF_eq, sortAllF_eq, sortDicF_eq, tpF_eq, truF_eq, tupF_eq, valF_eq, whileF_eq, chainF_eq, appF_eq]
  refine jss_cons ?_ ?_
  refine js_setD 2 ?_
  refine jd_l ?_
  refine jl_lst ?_
  refine ja_cons ?_ ?_
  refine jd_tup ?_
  exact ja_nil
  exact ja_nil
  refine jss_cons ?_ ?_
  refine js_for ?_ (jg_n 3 (by decide +kernel)) ?_
  refine jif_rng1 T.b_range ?_
  exact jb_v 1 (by decide +kernel)
  refine jss_cons ?_ ?_
  refine js_setD 4 ?_
  refine jd_l ?_
  refine jl_lst ?_
  exact ja_nil
  refine jss_cons ?_ ?_
  refine js_for ?_ (jg_n 5 (by decide +kernel)) ?_
  refine jif_seq ?_
  exact jd_v 2 (by decide +kernel)
  refine jss_one ?_
  refine js_setD 4 ?_
  refine jd_x ?_
  refine jx_add ?_ ?_
  exact jb_v 4 (by decide +kernel)
  refine jb_l ?_
  refine jl_comp (own := [("x", 6)]) ?_ (jg_n 6 (by decide +kernel)) ?_ ?_
  refine ji_f ?_
  refine jif_rng2 T.b_range ?_ ?_
  refine jb_x ?_
  refine j_if anti_S ?_ ?_ ?_
  refine jt_cmp .gt ?_ ?_
  refine jb_d ?_
  refine jd_len T.b_len ?_
  exact jb_v 5 (by decide +kernel)
  refine jb_d ?_
  exact jd_int
  refine jx_add ?_ ?_
  refine jb_d ?_
  refine jd_ix ?_ ?_
  exact jb_v 5 (by decide +kernel)
  refine jb_d ?_
  refine jd_neg ?_
  refine jb_d ?_
  exact jd_int
  refine jb_d ?_
  exact jd_int
  refine jx_d ?_
  exact jd_int
  exact jb_v 0 (by decide +kernel)
  exact jts_nil
  refine jd_x ?_
  refine jx_add ?_ ?_
  exact jb_v 5 (by decide +kernel)
  refine jb_d ?_
  refine jd_tup ?_
  refine ja_cons ?_ ?_
  exact jd_v 6 (by decide +kernel)
  exact ja_nil
  refine jss_one ?_
  refine js_setD 2 ?_
  refine jd_l ?_
  refine jl_list T.b_list ?_
  exact jb_v 4 (by decide +kernel)
  refine jss_one ?_
  exact js_retV 2

/-! _law_reason -/
def N__law_reason : List Str := ["f", "given"]
theorem sc__law_reason : FnScope N__law_reason ["f", "given"] (defScope (topS 25)) := ⟨rfl, rfl, rfl, by decide +kernel, rfl, by decide +kernel, by decide +kernel⟩
def tbl : Tbl := fun j => match j with
  | 0 => some (2, m_natural)
  | 1 => some (2, m_longest_chain)
  | 2 => some (2, m_covers)
  | 3 => some (2, m_extensions)
  | 4 => some (2, m_antichains)
  | 5 => some (2, m_filters)
  | 6 => some (2, m_closed_order)
  | _ => none
theorem tblOk (T : Tx S) : TblOk S 4 tbl := fun j n m h => by
  match j, h with
  | 0, h =>
    cases h
    exact tbl_one ((ok_natural T).le (show 4 ≤ 4 by omega)) T.v_natural
  | 1, h =>
    cases h
    exact tbl_one ((ok_longest_chain T).le (show 4 ≤ 4 by omega)) T.v_longest_chain
  | 2, h =>
    cases h
    exact tbl_one ((ok_covers T).le (show 4 ≤ 4 by omega)) T.v_covers
  | 3, h =>
    cases h
    exact tbl_one ((ok_extensions T).le (show 4 ≤ 4 by omega)) T.v_extensions
  | 4, h =>
    cases h
    exact tbl_one ((ok_antichains T).le (show 4 ≤ 4 by omega)) T.v_antichains
  | 5, h =>
    cases h
    exact tbl_one ((ok_filters T).le (show 4 ≤ 4 by omega)) T.v_filters
  | 6, h =>
    cases h
    exact tbl_one ((ok_closed_order T).le (show 4 ≤ 4 by omega)) T.v_closed_order
  | _ + 7, h => cases h
def try_reason : En → Out := (ifOF (b2F eqDF (b1F lenF (lookF 1)) (kc (.int 1))) (dropD (mpF Sl.d (valM 0 (tbl) (consF (b2F ixF (lookF 1) (kc (.int 0))) nilA)))) (ifOF (b2F eqDF (b1F lenF (lookF 1)) (kc (.int 2))) (dropD (mpF Sl.d (valM 0 (tbl) (consF (b2F ixF (lookF 1) (kc (.int 0))) (consF (b2F ixF (lookF 1) (kc (.int 1))) nilA))))) (dropD (mpF Sl.d (valM 0 (tbl) (consF (b2F ixF (lookF 1) (kc (.int 0))) (consF (b2F ixF (lookF 1) (kc (.int 1))) (consF (b2F ixF (lookF 1) (kc (.int 2))) nilA))))))))
def body__law_reason : En → Out := seqO (tryM 0 "malformed" try_reason) (retDF (kc .non))
def m__law_reason : List Dv → R Sl := funF 2 0 body__law_reason
theorem ok__law_reason (T : Tx S) : FdOk S 5 "_law_reason" 2 m__law_reason := by
  have hT := tblOk T
  refine FdOk.fast (fd_mkT 4 2 0 body__law_reason T.d__law_reason sc__law_reason rfl rfl (jsst_cons (jt_try T.x_Malformed ?_) ?_))
  unfold try_reason
  try simp only [addF_eq, allF_eq, andMF_eq, andVF_eq, anyF_eq, b1F_eq, b2F_eq, comp2F_eq, compF_eq, consF_eq, eqDF_eq, forF_eq, geF_eq, gtF_eq, ifMF_eq, ifOF_eq, inDF_eq, itF_eq, ixF_eq, leF_eq, lenF_eq, lookF_eq, lsF_eq, ltF_eq, mpF_eq, neDF_eq, ninDF_eq, notMF_eq, notVF_eq, orMF_eq, orVF_eq, putF_eq, retDF_eq, retLF_eq, retXF_eq, rngF_eq, seqDF_eq, seqF_eq, setCF_eq, setDF_eq, setDMF_eq, setXF_eq, sortAllF_eq, sortDicF_eq, tpF_eq, truF_eq, tupF_eq, valF_eq, whileF_eq, chainF_eq, appF_eq]
  refine jss_one ?_
  refine js_if ?_ ?_ ?_
  refine jt_cmp .eq ?_ ?_
  refine jb_d ?_
  refine jd_len T.b_len ?_
  exact jb_v 1 (by decide +kernel)
  refine jb_d ?_
  exact jd_int
  refine jss_one ?_
  refine js_expr ?_
  refine jd_x ?_
  refine jx_callV 0 hT ?_
  refine ja_cons ?_ ?_
  refine jd_ix ?_ ?_
  exact jb_v 1 (by decide +kernel)
  refine jb_d ?_
  exact jd_int
  exact ja_nil
  refine jss_one ?_
  refine js_if ?_ ?_ ?_
  refine jt_cmp .eq ?_ ?_
  refine jb_d ?_
  refine jd_len T.b_len ?_
  exact jb_v 1 (by decide +kernel)
  refine jb_d ?_
  exact jd_int
  refine jss_one ?_
  refine js_expr ?_
  refine jd_x ?_
  refine jx_callV 0 hT ?_
  refine ja_cons ?_ ?_
  refine jd_ix ?_ ?_
  exact jb_v 1 (by decide +kernel)
  refine jb_d ?_
  exact jd_int
  refine ja_cons ?_ ?_
  refine jd_ix ?_ ?_
  exact jb_v 1 (by decide +kernel)
  refine jb_d ?_
  exact jd_int
  exact ja_nil
  refine jss_one ?_
  refine js_expr ?_
  refine jd_x ?_
  refine jx_callV 0 hT ?_
  refine ja_cons ?_ ?_
  refine jd_ix ?_ ?_
  exact jb_v 1 (by decide +kernel)
  refine jb_d ?_
  exact jd_int
  refine ja_cons ?_ ?_
  refine jd_ix ?_ ?_
  exact jb_v 1 (by decide +kernel)
  refine jb_d ?_
  exact jd_int
  refine ja_cons ?_ ?_
  refine jd_ix ?_ ?_
  exact jb_v 1 (by decide +kernel)
  refine jb_d ?_
  exact jd_int
  exact ja_nil
  try simp only [addF_eq, allF_eq, andMF_eq, andVF_eq, anyF_eq, b1F_eq, b2F_eq, comp2F_eq, compF_eq, consF_eq, eqDF_eq, forF_eq, geF_eq, gtF_eq, ifMF_eq, ifOF_eq, inDF_eq, itF_eq, ixF_eq, leF_eq, lenF_eq, lookF_eq, lsF_eq, ltF_eq, mpF_eq, neDF_eq, ninDF_eq, notMF_eq, notVF_eq, orMF_eq, orVF_eq, putF_eq, retDF_eq, retLF_eq, retXF_eq, rngF_eq, seqDF_eq, seqF_eq, setCF_eq, setDF_eq, setDMF_eq, setXF_eq, sortAllF_eq, sortDicF_eq, tpF_eq, truF_eq, tupF_eq, valF_eq, whileF_eq, chainF_eq, appF_eq]
  refine jss_one ?_
  refine js_retD ?_
  exact jd_non

/-! _law_closed_pairs -/
def N__law_closed_pairs : List Str := ["n", "pairs", "found", "a", "b", "turn", "c", "d"]
theorem sc__law_closed_pairs : FnScope N__law_closed_pairs ["n", "pairs"] (defScope (topS 26)) := ⟨rfl, rfl, rfl, by decide +kernel, rfl, by decide +kernel, by decide +kernel⟩
def body__law_closed_pairs : En → Out := (seqF (setCF false 2 (compF (b1F seqDF (lookF 1)) [3, 4] (tupF [(putF 3), (putF 4)]) yesT (tpF (consF (valF 3) (consF (valF 4) nilA))))) (seqF (forF (b1F rngF (lookF 0)) (putF 5) (forF (b1F seqDF (mpF Dv.lst (b1F itF (lookF 2)))) (tupF [(putF 3), (putF 4)]) (forF (b1F seqDF (mpF Dv.lst (b1F itF (lookF 2)))) (tupF [(putF 6), (putF 7)]) (ifOF (andMF (b2F eqDF (lookF 4) (lookF 6)) (b2F ninDF (tpF (consF (valF 3) (consF (valF 7) nilA))) (lookF 2))) (appF 2 (tpF (consF (valF 3) (consF (valF 7) nilA)))) .nx)))) (retLF (b1F sortAllF (lookF 2)))))
def m__law_closed_pairs : List Dv → R Sl := funF 2 6 body__law_closed_pairs
theorem ok__law_closed_pairs (T : Tx S) : FdOk S 1 "_law_closed_pairs" 2 m__law_closed_pairs := by
  refine FdOk.fast (fd_mk 0 2 6 body__law_closed_pairs T.d__law_closed_pairs sc__law_closed_pairs rfl rfl ?_)
  unfold body__law_closed_pairs
  try simp only [addF_eq, allF_eq, andMF_eq, andVF_eq, anyF_eq, b1F_eq, b2F_eq, comp2F_eq, compF_eq, consF_eq, eqDF_eq, forF_eq, geF_eq, gtF_eq, ifMF_eq, ifOF_eq, inDF_eq, itF_eq, ixF_eq, leF_eq, lenF_eq, lookF_eq, lsF_eq, ltF_eq, mpF_eq, neDF_eq, ninDF_eq, notMF_eq, notVF_eq, orMF_eq, orVF_eq, putF_eq, retDF_eq, retLF_eq, retXF_eq, rngF_eq, seqDF_eq, seqF_eq, setCF_eq, setDF_eq, setDMF_eq, setXF_eq, sortAllF_eq, sortDicF_eq, tpF_eq, truF_eq, tupF_eq, valF_eq, whileF_eq, chainF_eq, appF_eq]
  refine jss_cons ?_ ?_
  refine js_comp false 2 (own := [("a", 3), ("b", 4)]) ?_ (jg_t (jgs_cons (jg_n 3 (by decide +kernel)) (jgs_cons (jg_n 4 (by decide +kernel)) jgs_nil))) ?_ ?_
  refine ji_seq ?_
  exact jb_v 1 (by decide +kernel)
  exact jts_nil
  refine jd_tup ?_
  refine ja_cons ?_ ?_
  exact jd_v 3 (by decide +kernel)
  refine ja_cons ?_ ?_
  exact jd_v 4 (by decide +kernel)
  exact ja_nil
  refine jss_cons ?_ ?_
  refine js_for ?_ (jg_n 5 (by decide +kernel)) ?_
  refine jif_rng1 T.b_range ?_
  exact jb_v 0 (by decide +kernel)
  refine jss_one ?_
  refine js_for ?_ (jg_t (jgs_cons (jg_n 3 (by decide +kernel)) (jgs_cons (jg_n 4 (by decide +kernel)) jgs_nil))) ?_
  refine jif_seq ?_
  refine jd_l ?_
  refine jl_list T.b_list ?_
  exact jb_v 2 (by decide +kernel)
  refine jss_one ?_
  refine js_for ?_ (jg_t (jgs_cons (jg_n 6 (by decide +kernel)) (jgs_cons (jg_n 7 (by decide +kernel)) jgs_nil))) ?_
  refine jif_seq ?_
  refine jd_l ?_
  refine jl_list T.b_list ?_
  exact jb_v 2 (by decide +kernel)
  refine jss_one ?_
  refine js_if ?_ ?_ ?_
  refine jt_w ?_
  refine jw_and ?_ ?_
  refine jt_cmp .eq ?_ ?_
  exact jb_v 4 (by decide +kernel)
  exact jb_v 6 (by decide +kernel)
  refine jw_and1 ?_
  refine jt_cmp .nin ?_ ?_ (by with_unfolding_all rfl)
  refine jb_d ?_
  refine jd_tup ?_
  refine ja_cons ?_ ?_
  exact jd_v 3 (by decide +kernel)
  refine ja_cons ?_ ?_
  exact jd_v 7 (by decide +kernel)
  exact ja_nil
  exact jb_v 2 (by decide +kernel)
  refine jss_one ?_
  refine js_exprE ?_
  refine je_append 2 ?_
  refine je_d ?_
  refine jd_tup ?_
  refine ja_cons ?_ ?_
  exact jd_v 3 (by decide +kernel)
  refine ja_cons ?_ ?_
  exact jd_v 7 (by decide +kernel)
  exact ja_nil
  exact jss_nil
  refine jss_one ?_
  refine js_retL ?_
  refine jl_sortAll T.b_sorted ?_
  exact jb_v 2 (by decide +kernel)

/-! _law_drawn_order -/
def N__law_drawn_order : List Str := ["state", "n", "names", "left", "t", "pairs", "i", "j"]
theorem sc__law_drawn_order : FnScope N__law_drawn_order ["state"] (defScope (topS 27)) := ⟨rfl, rfl, rfl, by decide +kernel, rfl, by decide +kernel, by decide +kernel⟩
def body__law_drawn_order : En → Out := (seqO (setE 1 (op2E addE (keepE (kc (.int 1))) (callT 0 m__law_take (consM (kc (.int 4)) nilA)))) (seqO (par2X 2 3 (consS (mp Sl.own (lstV nilA)) (consS (mp Sl.own (b1 rng1D (lookAt 1))) nilS))) (seqO (forO (b1 rng1D (lookAt 1)) (putM 4) (dropE (methE 2 appD (methE 3 popD (callT 0 m__law_take (consM (b1 lenD (lookAt 3)) nilA)))))) (seqO (setE 5 (compEM (b1 seqD (mp Sl.d (b1 m__law_picks (consM (valAt 1) (consM (kc (.int 2)) nilA))))) [6, 7] (tupM [(putM 6), (putM 7)]) (cmpE (CmpK.fd .eq) (callT 0 m__law_take (consM (kc (.int 2)) nilA)) (keepE (kc (.int 0)))) (keepE (tupV (consM (b2 ixD (lookAt 2) (lookAt 6)) (consM (b2 ixD (lookAt 2) (lookAt 7)) nilA)))))) (retD (tupV (consM (valAt 1) (consM (valAt 5) (consM (b1 tupleD (mp Sl.d (b1 m__law_closed_pairs (consM (valAt 1) (consM (valAt 5) nilA))))) nilA)))))))))
def m__law_drawn_order : Int → Int → List Dv → R (Dv × Int × Int) := funT 0 7 body__law_drawn_order
theorem ok__law_drawn_order (T : Tx S) : FtOk S 2 "_law_drawn_order" 0 m__law_drawn_order := by
  have c__law_closed_pairs := (ok__law_closed_pairs T).le (show 1 ≤ 1 by omega)
  have c__law_picks := (ok__law_picks T).le (show 1 ≤ 1 by omega)
  have c__law_take := (ok__law_take T).le (show 1 ≤ 1 by omega)
  refine ft_mk 1 0 7 body__law_drawn_order T.d__law_drawn_order sc__law_drawn_order rfl rfl fun p => ?_
  refine jss_cons ?_ ?_
  refine js_setE 1 ?_
  refine je_add ?_ ?_
  refine je_d ?_
  exact jd_int
  refine je_call 0 (c__law_take) ?_
  refine ja_cons ?_ ?_
  exact jd_int
  exact ja_nil
  refine jss_cons ?_ ?_
  refine js_twoX 2 3 ?_
  refine jxa_cons ?_ ?_
  refine jx_l ?_
  refine jl_lst ?_
  exact ja_nil
  refine jxa_cons ?_ ?_
  refine jx_l ?_
  refine jl_listRg1 T.b_list T.b_range ?_
  exact jb_v 1 (by decide +kernel)
  exact jxa_nil
  refine jss_cons ?_ ?_
  refine js_for ?_ (jg_n 4 (by decide +kernel)) ?_
  refine jif_rng1 T.b_range ?_
  exact jb_v 1 (by decide +kernel)
  refine jss_one ?_
  refine js_exprE ?_
  refine je_append 2 ?_
  refine je_pop 3 ?_
  refine je_call 0 (c__law_take) ?_
  refine ja_cons ?_ ?_
  refine jd_len T.b_len ?_
  exact jb_v 3 (by decide +kernel)
  exact ja_nil
  refine jss_cons ?_ ?_
  refine js_compE 5 (own := [("i", 6), ("j", 7)]) ?_ (jg_t (jgs_cons (jg_n 6 (by decide +kernel)) (jgs_cons (jg_n 7 (by decide +kernel)) jgs_nil))) ?_ ?_
  refine jif_seq ?_
  refine jd_x ?_
  refine jx_call (c__law_picks) ?_
  refine ja_cons ?_ ?_
  exact jd_v 1 (by decide +kernel)
  refine ja_cons ?_ ?_
  exact jd_int
  exact ja_nil
  refine jtes_one ?_
  refine jte_cmp .eq ?_ ?_
  refine je_call 0 (c__law_take) ?_
  refine ja_cons ?_ ?_
  exact jd_int
  exact ja_nil
  refine je_d ?_
  exact jd_int
  refine je_d ?_
  refine jd_tup ?_
  refine ja_cons ?_ ?_
  refine jd_ix ?_ ?_
  exact jb_v 2 (by decide +kernel)
  exact jb_v 6 (by decide +kernel)
  refine ja_cons ?_ ?_
  refine jd_ix ?_ ?_
  exact jb_v 2 (by decide +kernel)
  exact jb_v 7 (by decide +kernel)
  exact ja_nil
  refine jss_one ?_
  refine js_retD ?_
  refine jd_tup ?_
  refine ja_cons ?_ ?_
  exact jd_v 1 (by decide +kernel)
  refine ja_cons ?_ ?_
  exact jd_v 5 (by decide +kernel)
  refine ja_cons ?_ ?_
  refine jd_tuple T.b_tuple ?_
  refine jb_x ?_
  refine jx_call (c__law_closed_pairs) ?_
  refine ja_cons ?_ ?_
  exact jd_v 1 (by decide +kernel)
  refine ja_cons ?_ ?_
  exact jd_v 5 (by decide +kernel)
  exact ja_nil
  exact ja_nil

/-! _law_sets_of -/
def N__law_sets_of : List Str := ["n", "found", "i", "own"]
theorem sc__law_sets_of : FnScope N__law_sets_of ["n"] (defScope (topS 28)) := ⟨rfl, rfl, rfl, by decide +kernel, rfl, by decide +kernel, by decide +kernel⟩
def body__law_sets_of : En → Out := (seqF (setDF 1 (mpF Dv.lst (lsF (consF (tpF nilA) nilA)))) (seqF (forF (b1F rngF (lookF 0)) (putF 2) (setDF 1 (mpF Sl.d (b2F addF (lookF 1) (mpF Dv.lst (compF (b1F seqDF (lookF 1)) [3] (putF 3) yesT (mpF Sl.d (b2F addF (lookF 3) (tpF (consF (valF 2) nilA)))))))))) (retLF (b1F sortAllF (lookF 1)))))
def m__law_sets_of : List Dv → R Sl := funF 1 3 body__law_sets_of
theorem ok__law_sets_of (T : Tx S) : FdOk S 1 "_law_sets_of" 1 m__law_sets_of := by
  refine FdOk.fast (fd_mk 0 1 3 body__law_sets_of T.d__law_sets_of sc__law_sets_of rfl rfl ?_)
  unfold body__law_sets_of
  try simp only [addF_eq, allF_eq, andMF_eq, andVF_eq, anyF_eq, b1F_eq, b2F_eq, comp2F_eq, compF_eq, consF_eq, eqDF_eq, forF_eq, geF_eq, gtF_eq, ifMF_eq, ifOF_eq, inDF_eq, itF_eq, ixF_eq, leF_eq, lenF_eq, lookF_eq, lsF_eq, ltF_eq, mpF_eq, neDF_eq, ninDF_eq, notMF_eq, notVF_eq, orMF_eq, orVF_eq, putF_eq, retDF_eq, retLF_eq, retXF_eq, rngF_eq, seqDF_eq, seqF_eq, setCF_eq, setDF_eq, setDMF_eq, setXF_eq, sortAllF_eq, sortDicF_eq, tpF_eq, truF_eq, tupF_eq, valF_eq, whileF_eq, chainF_eq, appF_eq]
  refine jss_cons ?_ ?_
  refine js_setD 1 ?_
  refine jd_l ?_
  refine jl_lst ?_
  refine ja_cons ?_ ?_
  refine jd_tup ?_
  exact ja_nil
  exact ja_nil
  refine jss_cons ?_ ?_
  refine js_for ?_ (jg_n 2 (by decide +kernel)) ?_
  refine jif_rng1 T.b_range ?_
  exact jb_v 0 (by decide +kernel)
  refine jss_one ?_
  refine js_setD 1 ?_
  refine jd_x ?_
  refine jx_add ?_ ?_
  exact jb_v 1 (by decide +kernel)
  refine jb_l ?_
  refine jl_comp (own := [("own", 3)]) ?_ (jg_n 3 (by decide +kernel)) ?_ ?_
  refine ji_seq ?_
  exact jb_v 1 (by decide +kernel)
  exact jts_nil
  refine jd_x ?_
  refine jx_add ?_ ?_
  exact jb_v 3 (by decide +kernel)
  refine jb_d ?_
  refine jd_tup ?_
  refine ja_cons ?_ ?_
  exact jd_v 2 (by decide +kernel)
  exact ja_nil
  refine jss_one ?_
  refine js_retL ?_
  refine jl_sortAll T.b_sorted ?_
  exact jb_v 1 (by decide +kernel)

/-! _law_rows_of -/
def N__law_rows_of : List Str := ["n", "order", "found", "t", "longer", "own", "x", "a", "b"]
theorem sc__law_rows_of : FnScope N__law_rows_of ["n", "order"] (defScope (topS 29)) := ⟨rfl, rfl, rfl, by decide +kernel, rfl, by decide +kernel, by decide +kernel⟩
def body__law_rows_of : En → Out := (seqF (setDF 2 (mpF Dv.lst (lsF (consF (tpF nilA) nilA)))) (seqF (forF (b1F rngF (lookF 0)) (putF 3) (seqF (setDF 4 (mpF Dv.lst (lsF nilA))) (seqF (forF (b1F seqDF (valF 2)) (putF 5) (setDF 4 (mpF Sl.d (b2F addF (lookF 4) (mpF Dv.lst (compF (b1F rngF (lookF 0)) [6] (putF 6) (andMF (b2F ninDF (lookF 6) (lookF 5)) (b1F truF (b1F allF (mpF Dv.lst (compF (b1F seqDF (lookF 1)) [7, 8] (tupF [(putF 7), (putF 8)]) (b2F eqDF (lookF 8) (lookF 6)) (mpF Dv.bl (b2F inDF (lookF 7) (lookF 5)))))))) (mpF Sl.d (b2F addF (lookF 5) (tpF (consF (valF 6) nilA)))))))))) (setDF 2 (mpF Dv.lst (b1F itF (lookF 4))))))) (retLF (b1F sortAllF (lookF 2)))))
def m__law_rows_of : List Dv → R Sl := funF 2 7 body__law_rows_of
theorem ok__law_rows_of (T : Tx S) : FdOk S 1 "_law_rows_of" 2 m__law_rows_of := by
  refine FdOk.fast (fd_mk 0 2 7 body__law_rows_of T.d__law_rows_of sc__law_rows_of rfl rfl ?_)
  unfold body__law_rows_of
  try simp only [addF_eq, allF_eq, andMF_eq, andVF_eq, anyF_eq, b1F_eq, b2F_eq, comp2F_eq, compF_eq, consF_eq, eqDF_eq, forF_eq, geF_eq, gtF_eq, ifMF_eq, ifOF_eq, inDF_eq, itF_eq, ixF_eq, leF_eq, lenF_eq, lookF_eq, lsF_eq, ltF_eq, mpF_eq, neDF_eq, ninDF_eq, notMF_eq, notVF_eq, orMF_eq, orVF_eq, putF_eq, retDF_eq, retLF_eq, retXF_eq, rngF_eq, seqDF_eq, seqF_eq, setCF_eq, setDF_eq, setDMF_eq, setXF_eq, sortAllF_eq, sortDicF_eq, tpF_eq, truF_eq, tupF_eq, valF_eq, whileF_eq, chainF_eq, appF_eq]
  refine jss_cons ?_ ?_
  refine js_setD 2 ?_
  refine jd_l ?_
  refine jl_lst ?_
  refine ja_cons ?_ ?_
  refine jd_tup ?_
  exact ja_nil
  exact ja_nil
  refine jss_cons ?_ ?_
  refine js_for ?_ (jg_n 3 (by decide +kernel)) ?_
  refine jif_rng1 T.b_range ?_
  exact jb_v 0 (by decide +kernel)
  refine jss_cons ?_ ?_
  refine js_setD 4 ?_
  refine jd_l ?_
  refine jl_lst ?_
  exact ja_nil
  refine jss_cons ?_ ?_
  refine js_for ?_ (jg_n 5 (by decide +kernel)) ?_
  refine jif_seq ?_
  exact jd_v 2 (by decide +kernel)
  refine jss_one ?_
  refine js_setD 4 ?_
  refine jd_x ?_
  refine jx_add ?_ ?_
  exact jb_v 4 (by decide +kernel)
  refine jb_l ?_
  refine jl_comp (own := [("x", 6)]) ?_ (jg_n 6 (by decide +kernel)) ?_ ?_
  refine ji_f ?_
  refine jif_rng1 T.b_range ?_
  exact jb_v 0 (by decide +kernel)
  refine jts_one ?_
  refine jt_w ?_
  refine jw_and ?_ ?_
  refine jt_cmp .nin ?_ ?_ (by with_unfolding_all rfl)
  exact jb_v 6 (by decide +kernel)
  exact jb_v 5 (by decide +kernel)
  refine jw_and1 ?_
  refine jt_val ?_
  refine jb_d ?_
  refine jd_all T.b_all ?_
  refine jb_l ?_
  refine jl_comp (own := [("a", 7), ("b", 8)]) ?_ (jg_t (jgs_cons (jg_n 7 (by decide +kernel)) (jgs_cons (jg_n 8 (by decide +kernel)) jgs_nil))) ?_ ?_
  refine ji_seq ?_
  exact jb_v 1 (by decide +kernel)
  refine jts_one ?_
  refine jt_cmp .eq ?_ ?_
  exact jb_v 8 (by decide +kernel)
  exact jb_v 6 (by decide +kernel)
  refine jd_j ?_
  refine jc_cmp .inn ?_ ?_ (by with_unfolding_all rfl)
  exact jb_v 7 (by decide +kernel)
  exact jb_v 5 (by decide +kernel)
  refine jd_x ?_
  refine jx_add ?_ ?_
  exact jb_v 5 (by decide +kernel)
  refine jb_d ?_
  refine jd_tup ?_
  refine ja_cons ?_ ?_
  exact jd_v 6 (by decide +kernel)
  exact ja_nil
  refine jss_one ?_
  refine js_setD 2 ?_
  refine jd_l ?_
  refine jl_list T.b_list ?_
  exact jb_v 4 (by decide +kernel)
  refine jss_one ?_
  refine js_retL ?_
  refine jl_sortAll T.b_sorted ?_
  exact jb_v 2 (by decide +kernel)

/-! _law_is_chain -/
def N__law_is_chain : List Str := ["own", "order", "x", "y"]
theorem sc__law_is_chain : FnScope N__law_is_chain ["own", "order"] (defScope (topS 30)) := ⟨rfl, rfl, rfl, by decide +kernel, rfl, by decide +kernel, by decide +kernel⟩
def body__law_is_chain : En → Out := (retDF (b1F allF (mpF Dv.lst (compF (b1F seqDF (lookF 0)) [2] (putF 2) yesT (b1F allF (mpF Dv.lst (compF (b1F seqDF (lookF 0)) [3] (putF 3) yesT (orVF (mpF Dv.bl (b2F eqDF (lookF 2) (lookF 3))) (orVF (mpF Dv.bl (b2F inDF (tpF (consF (valF 2) (consF (valF 3) nilA))) (lookF 1))) (mpF Dv.bl (b2F inDF (tpF (consF (valF 3) (consF (valF 2) nilA))) (lookF 1))))))))))))
def m__law_is_chain : List Dv → R Sl := funF 2 2 body__law_is_chain
theorem ok__law_is_chain (T : Tx S) : FdOk S 1 "_law_is_chain" 2 m__law_is_chain := by
  refine FdOk.fast (fd_mk 0 2 2 body__law_is_chain T.d__law_is_chain sc__law_is_chain rfl rfl ?_)
  unfold body__law_is_chain
  try simp only [addF_eq, allF_eq, andMF_eq, andVF_eq, anyF_eq, b1F_eq, b2F_eq, comp2F_eq, compF_eq, consF_eq, eqDF_eq, forF_eq, geF_eq, gtF_eq, ifMF_eq, ifOF_eq, inDF_eq, itF_eq, ixF_eq, leF_eq, lenF_eq, lookF_eq, lsF_eq, ltF_eq, mpF_eq, neDF_eq, ninDF_eq, notMF_eq, notVF_eq, orMF_eq, orVF_eq, putF_eq, retDF_eq, retLF_eq, retXF_eq, rngF_eq, seqDF_eq, seqF_eq, setCF_eq, setDF_eq, setDMF_eq, setXF_eq, sortAllF_eq, sortDicF_eq, tpF_eq, truF_eq, tupF_eq, valF_eq, whileF_eq, chainF_eq, appF_eq]
  refine jss_one ?_
  refine js_retD ?_
  refine jd_all T.b_all ?_
  refine jb_l ?_
  refine jl_comp (own := [("x", 2)]) ?_ (jg_n 2 (by decide +kernel)) ?_ ?_
  refine ji_seq ?_
  exact jb_v 0 (by decide +kernel)
  exact jts_nil
  refine jd_all T.b_all ?_
  refine jb_l ?_
  refine jl_comp (own := [("y", 3)]) ?_ (jg_n 3 (by decide +kernel)) ?_ ?_
  refine ji_seq ?_
  exact jb_v 0 (by decide +kernel)
  exact jts_nil
  refine jd_or ?_ ?_
  refine jd_j ?_
  refine jc_cmp .eq ?_ ?_
  exact jb_v 2 (by decide +kernel)
  exact jb_v 3 (by decide +kernel)
  refine jd_or ?_ ?_
  refine jd_j ?_
  refine jc_cmp .inn ?_ ?_ (by with_unfolding_all rfl)
  refine jb_d ?_
  refine jd_tup ?_
  refine ja_cons ?_ ?_
  exact jd_v 2 (by decide +kernel)
  refine ja_cons ?_ ?_
  exact jd_v 3 (by decide +kernel)
  exact ja_nil
  exact jb_v 1 (by decide +kernel)
  refine jd_one ?_
  refine jd_j ?_
  refine jc_cmp .inn ?_ ?_ (by with_unfolding_all rfl)
  refine jb_d ?_
  refine jd_tup ?_
  refine ja_cons ?_ ?_
  exact jd_v 3 (by decide +kernel)
  refine ja_cons ?_ ?_
  exact jd_v 2 (by decide +kernel)
  exact ja_nil
  exact jb_v 1 (by decide +kernel)

/-! law -/
def N_law : List Str := ["script", "state", "turn", "n", "pairs", "order", "high", "own", "a", "b", "flat", "rows", "cover", "c", "long", "tried", "value", "good", "x", "f", "bad"]
theorem sc_law : FnScope N_law ["script"] (defScope (topS 31)) := ⟨rfl, rfl, rfl, by decide +kernel, rfl, by decide +kernel, by decide +kernel⟩
def lb_0 : En → Out := (asgE (tupM [(putM 3), (putM 4), (putM 5)]) (callT 1 m__law_drawn_order nilA))
def lb_1 : En → Out := (ifOF (orMF (b2F neDF (mpF Sl.d (b1F m_closed_order (consF (valF 3) (consF (valF 4) nilA)))) (lookF 5)) (orMF (b2F neDF (mpF Sl.d (b1F m_closed_order (consF (valF 3) (consF (b1F tupleD (lookF 4)) nilA)))) (lookF 5)) (notMF (b1F truF (mpF Sl.d (b1F m__law_says (consF (mpF Sl.d (b1F m_is_order (consF (valF 3) (consF (valF 5) nilA)))) (consF (kc (.bl true)) nilA)))))))) (retDF (kc (.bl false))) .nx)
def lb_2 : En → Out := (setCF true 6 (compF (b1F seqDF (mpF Sl.d (b1F m__law_sets_of (consF (valF 3) nilA)))) [7] (putF 7) (b1F truF (b1F allF (mpF Dv.lst (compF (b1F seqDF (lookF 5)) [8, 9] (tupF [(putF 8), (putF 9)]) (b2F inDF (lookF 8) (lookF 7)) (mpF Dv.bl (b2F inDF (lookF 9) (lookF 7))))))) (valF 7)))
def lb_3 : En → Out := (setCF true 10 (compF (b1F seqDF (mpF Sl.d (b1F m__law_sets_of (consF (valF 3) nilA)))) [7] (putF 7) (notMF (b1F truF (b1F anyF (mpF Dv.lst (compF (b1F seqDF (lookF 5)) [8, 9] (tupF [(putF 8), (putF 9)]) yesT (andVF (mpF Dv.bl (b2F inDF (lookF 8) (lookF 7))) (mpF Dv.bl (b2F inDF (lookF 9) (lookF 7))))))))) (valF 7)))
def lb_4 : En → Out := (ifOF (orMF (notMF (b1F truF (mpF Sl.d (b1F (m__law_same 6) (consF (mpF Sl.d (b1F m_filters (consF (valF 3) (consF (valF 5) nilA)))) (consF (b1F tupleD (lookF 6)) nilA)))))) (orMF (notMF (b1F truF (mpF Sl.d (b1F (m__law_same 6) (consF (mpF Sl.d (b1F m_antichains (consF (valF 3) (consF (valF 5) nilA)))) (consF (b1F tupleD (lookF 10)) nilA)))))) (b2F neDF (b1F lenF (lookF 6)) (b1F lenF (lookF 10))))) (retDF (kc (.bl false))) .nx)
def lb_5 : En → Out := (setDF 11 (mpF Sl.d (b1F m__law_rows_of (consF (valF 3) (consF (valF 5) nilA)))))
def lb_6 : En → Out := (setCF true 12 (compF (b1F seqDF (lookF 5)) [8, 9] (tupF [(putF 8), (putF 9)]) (notMF (b1F truF (b1F anyF (mpF Dv.lst (compF (b1F rngF (lookF 3)) [13] (putF 13) yesT (andVF (mpF Dv.bl (b2F inDF (tpF (consF (valF 8) (consF (valF 13) nilA))) (lookF 5))) (mpF Dv.bl (b2F inDF (tpF (consF (valF 13) (consF (valF 9) nilA))) (lookF 5))))))))) (tpF (consF (valF 8) (consF (valF 9) nilA)))))
def lb_7 : En → Out := (setDF 14 (b1F maxLD (mpF Dv.lst (compF (b1F seqDF (mpF Sl.d (b1F m__law_sets_of (consF (valF 3) nilA)))) [7] (putF 7) (b1F truF (mpF Sl.d (b1F m__law_is_chain (consF (valF 7) (consF (valF 5) nilA))))) (b1F lenF (lookF 7))))))
def lb_8 : En → Out := (ifOF (orMF (notMF (b1F truF (mpF Sl.d (b1F (m__law_same 6) (consF (mpF Sl.d (b1F m_extensions (consF (valF 3) (consF (valF 5) nilA)))) (consF (b1F tupleD (lookF 11)) nilA)))))) (orMF (notMF (b1F truF (mpF Sl.d (b1F (m__law_same 6) (consF (mpF Sl.d (b1F m_covers (consF (valF 3) (consF (valF 5) nilA)))) (consF (b1F tupleD (lookF 12)) nilA)))))) (notMF (b1F truF (mpF Sl.d (b1F (m__law_same 6) (consF (mpF Sl.d (b1F m_longest_chain (consF (valF 3) (consF (valF 5) nilA)))) (consF (valF 14) nilA)))))))) (retDF (kc (.bl false))) .nx)
def lb_9 : En → Out := (ifOF (notMF (b1F truF (mpF Sl.d (b1F m__law_says (consF (mpF Sl.d (b1F m_natural (consF (valF 3) (consF (valF 5) nilA)))) (consF (b1F allF (mpF Dv.lst (compF (b1F seqDF (lookF 5)) [8, 9] (tupF [(putF 8), (putF 9)]) yesT (mpF Dv.bl (b2F ltF (lookF 8) (lookF 9)))))) nilA)))))) (retDF (kc (.bl false))) .nx)
def lb_10 : En → Out := (setDF 15 (mpF Dv.lst (lsF (consF (valF 5) (consF (mpF Dv.lst (b1F itF (lookF 5))) (consF (mpF Sl.d (b2F addF (lookF 5) (tpF (consF (tpF (consF (kc (.int 0)) (consF (kc (.int 0)) nilA))) nilA)))) (consF (b1F revD (lookF 5)) (consF (mpF Sl.d (b2F addF (lookF 5) (tpF (consF (tpF (consF (kc (.int 0)) (consF (valF 3) nilA))) nilA)))) (consF (kc .non) (consF (kc (.int 5)) (consF (tpF (consF (tpF (consF (kc (.int 0)) (consF (kc (.int 1)) (consF (kc (.int 2)) nilA)))) nilA)) (consF (tpF (consF (tpF (consF (kc (.bl true)) (consF (kc (.int 0)) nilA))) nilA)) (consF (tpF (consF (mpF Dv.lst (lsF (consF (kc (.int 0)) (consF (kc (.int 1)) nilA)))) nilA)) (consF (tpF (consF (tpF (consF (kc (.str "0")) (consF (kc (.str "1")) nilA))) nilA)) nilA))))))))))))))
def lb_11 : En → Out := (forF (b1F seqDF (valF 15)) (putF 16) (seqF (setDF 17 (andVF (mpF Dv.bl (b1F (isiD .tuple) (lookF 16))) (b1F allF (mpF Dv.lst (compF (b1F seqDF (lookF 16)) [7] (putF 7) yesT (andVF (mpF Dv.bl (b1F (isiD .tuple) (lookF 7))) (andVF (mpF Dv.bl (b2F eqDF (b1F lenF (lookF 7)) (kc (.int 2)))) (andVF (b1F allF (mpF Dv.lst (compF (b1F seqDF (lookF 7)) [18] (putF 18) yesT (andVF (mpF Sl.d (b1F m__law_is_whole (consF (valF 18) nilA))) (mpF Dv.bl (chainF leF ltF (kc (.int 0)) (lookF 18) (lookF 3))))))) (mpF Dv.bl (b2F neDF (b2F ixF (lookF 7) (kc (.int 0))) (b2F ixF (lookF 7) (kc (.int 1))))))))))))) (seqF (setDF 17 (andVF (valF 17) (andVF (mpF Dv.bl (b2F eqDF (mpF Dv.lst (b1F itF (lookF 16))) (mpF Dv.lst (b1F sortSetD (lookF 16))))) (andVF (mpF Dv.bl (b2F eqDF (mpF Sl.d (b1F m__law_closed_pairs (consF (valF 3) (consF (valF 16) nilA)))) (mpF Dv.lst (b1F itF (lookF 16))))) (notVF (b1F anyF (mpF Dv.lst (compF (b1F seqDF (lookF 16)) [8, 9] (tupF [(putF 8), (putF 9)]) yesT (mpF Dv.bl (b2F inDF (tpF (consF (valF 9) (consF (valF 8) nilA))) (lookF 16))))))))))) (seqF (ifOF (notMF (b1F truF (mpF Sl.d (b1F m__law_says (consF (mpF Sl.d (b1F m_is_order (consF (valF 3) (consF (valF 16) nilA)))) (consF (valF 17) nilA)))))) (retDF (kc (.bl false))) .nx) (ifOF (andMF (notMF (b1F truF (lookF 17))) (notMF (b1F truF (b1F allF (mpF Dv.lst (compF (b1F seqDF (tpF (consF (kc (.fn 5)) (consF (kc (.fn 4)) (consF (kc (.fn 3)) (consF (kc (.fn 2)) (consF (kc (.fn 1)) (consF (kc (.fn 0)) nilA)))))))) [19] (putF 19) yesT (mpF Dv.bl (b2F eqDF (mpF Sl.d (b1F m__law_reason (consF (valF 19) (consF (tpF (consF (valF 3) (consF (valF 16) nilA))) nilA)))) (kc (.str "malformed")))))))))) (retDF (kc (.bl false))) .nx)))))
def lb_12 : En → Out := (ifOF (orMF (b1F truF (b1F anyF (mpF Dv.lst (compF (b1F seqDF (mpF Dv.lst (lsF (consF (kc (.int 0)) (consF (kc (.int 5)) (consF (kc (.bl true)) (consF (kc .non) (consF (kc (.str "2")) nilA)))))))) [20] (putF 20) yesT (mpF Sl.d (b1F m_is_order (consF (valF 20) (consF (valF 5) nilA)))))))) (b2F neDF (mpF Sl.d (b1F m__law_reason (consF (kc (.fn 6)) (consF (tpF (consF (kc (.int 2)) (consF (mpF Dv.lst (lsF (consF (tpF (consF (kc (.int 0)) (consF (kc (.int 1)) nilA))) (consF (tpF (consF (kc (.int 1)) (consF (kc (.int 0)) nilA))) nilA)))) nilA))) nilA)))) (kc (.str "malformed")))) (retDF (kc (.bl false))) .nx)
def lb : En → Out := (seqO lb_0 (seqO lb_1 (seqO lb_2 (seqO lb_3 (seqO lb_4 (seqO lb_5 (seqO lb_6 (seqO lb_7 (seqO lb_8 (seqO lb_9 (seqO lb_10 (seqO lb_11 lb_12))))))))))))
def lr_loop : En → Out := (forO (b1 rng1D (kc (.int 3))) (putM 2) lb)
def lr_0 : En → Out := (retDF (b1F allF (mpF Dv.lst (compF (b1F seqDF (mpF Dv.lst (lsF (consF (kc .non) (consF (kc (.int 5)) (consF (mpF Dv.lst (lsF (consF (tpF (consF (kc (.int 0)) (consF (kc (.int 3)) nilA))) nilA))) (consF (mpF Dv.lst (lsF (consF (tpF (consF (kc (.int 0)) (consF (kc (.int 0)) nilA))) nilA))) (consF (mpF Dv.lst (lsF (consF (tpF (consF (kc (.int 0)) (consF (kc (.bl true)) nilA))) nilA))) (consF (mpF Dv.lst (lsF (consF (mpF Dv.lst (lsF (consF (kc (.int 0)) (consF (kc (.int 1)) nilA)))) nilA))) (consF (mpF Dv.lst (lsF (consF (tpF (consF (kc (.int 0)) (consF (kc (.int 1)) nilA))) (consF (tpF (consF (kc (.int 1)) (consF (kc (.int 2)) nilA))) (consF (tpF (consF (kc (.int 2)) (consF (kc (.int 0)) nilA))) nilA))))) nilA)))))))))) [20] (putF 20) yesT (mpF Dv.bl (b2F eqDF (mpF Sl.d (b1F m__law_reason (consF (kc (.fn 6)) (consF (tpF (consF (kc (.int 3)) (consF (valF 20) nilA))) nilA)))) (kc (.str "malformed"))))))))
def lr : En → Out := lr_0
def rest_law : En → Out := (seqO lr_loop lr)
theorem ok_law (T : Tx S) (ss : SdOk S 1) (hm : ∀ A B, 0 ≤ A → 0 ≤ B → B < bigM → isT (rest_law (env1 21 A B)) = true) {f : Addr} {fd : FuncData} (F : Fun S.K "law" "law" (topS 31) f fd) : FnOk S.P S.w S.K S.mg S.base (CX S.P S.w) 8 f fd ["script"] (spLaw S) := by
  have c__law_closed_pairs := (ok__law_closed_pairs T).le (show 1 ≤ 7 by omega)
  have c__law_drawn_order := (ok__law_drawn_order T).le (show 2 ≤ 7 by omega)
  have c__law_is_chain := (ok__law_is_chain T).le (show 1 ≤ 7 by omega)
  have c__law_is_whole := (ok__law_is_whole T).le (show 1 ≤ 7 by omega)
  have c__law_reason := (ok__law_reason T).le (show 5 ≤ 7 by omega)
  have c__law_rows_of := (ok__law_rows_of T).le (show 1 ≤ 7 by omega)
  have c__law_same := (ok__law_same T 6).le (show 1 + 6 ≤ 7 by omega)
  have c__law_says := (ok__law_says T).le (show 1 ≤ 7 by omega)
  have c__law_sets_of := (ok__law_sets_of T).le (show 1 ≤ 7 by omega)
  have c_antichains := (ok_antichains T).le (show 4 ≤ 7 by omega)
  have c_closed_order := (ok_closed_order T).le (show 4 ≤ 7 by omega)
  have c_covers := (ok_covers T).le (show 4 ≤ 7 by omega)
  have c_extensions := (ok_extensions T).le (show 4 ≤ 7 by omega)
  have c_filters := (ok_filters T).le (show 4 ≤ 7 by omega)
  have c_is_order := (ok_is_order T).le (show 2 ≤ 7 by omega)
  have c_longest_chain := (ok_longest_chain T).le (show 4 ≤ 7 by omega)
  have c_natural := (ok_natural T).le (show 4 ≤ 7 by omega)
  refine law_of (m := rest_law) F sc_law ⟨ss.choose, ss.choose_spec.1, ss.choose_spec.2.le (show 1 ≤ 7 by omega)⟩ rfl (by decide +kernel) (by decide +kernel) (by decide +kernel) (fun p => ?_) hm
  unfold rest_law
  refine jss_cons ?_ ?_
  unfold lr_loop
  try simp only [addF_eq, allF_eq, andMF_eq, andVF_eq, anyF_eq, b1F_eq, b2F_eq, comp2F_eq, compF_eq, consF_eq, eqDF_eq, forF_eq, geF_eq, gtF_eq, ifMF_eq, ifOF_eq, inDF_eq, itF_eq, ixF_eq, leF_eq, lenF_eq, lookF_eq, lsF_eq, ltF_eq, mpF_eq, neDF_eq, ninDF_eq, notMF_eq, notVF_eq, orMF_eq, orVF_eq, putF_eq, retDF_eq, retLF_eq, retXF_eq, rngF_eq, seqDF_eq, seqF_eq, setCF_eq, setDF_eq, setDMF_eq, setXF_eq, sortAllF_eq, sortDicF_eq, tpF_eq, truF_eq, tupF_eq, valF_eq, whileF_eq, chainF_eq, appF_eq]
  refine js_for ?_ (jg_n 2 (by decide +kernel)) ?_
  refine jif_rng1 T.b_range ?_
  refine jb_d ?_
  exact jd_int
  unfold lb
  try simp only [addF_eq, allF_eq, andMF_eq, andVF_eq, anyF_eq, b1F_eq, b2F_eq, comp2F_eq, compF_eq, consF_eq, eqDF_eq, forF_eq, geF_eq, gtF_eq, ifMF_eq, ifOF_eq, inDF_eq, itF_eq, ixF_eq, leF_eq, lenF_eq, lookF_eq, lsF_eq, ltF_eq, mpF_eq, neDF_eq, ninDF_eq, notMF_eq, notVF_eq, orMF_eq, orVF_eq, putF_eq, retDF_eq, retLF_eq, retXF_eq, rngF_eq, seqDF_eq, seqF_eq, setCF_eq, setDF_eq, setDMF_eq, setXF_eq, sortAllF_eq, sortDicF_eq, tpF_eq, truF_eq, tupF_eq, valF_eq, whileF_eq, chainF_eq, appF_eq]
  refine jss_cons ?_ ?_
  unfold lb_0
  try simp only [addF_eq, allF_eq, andMF_eq, andVF_eq, anyF_eq, b1F_eq, b2F_eq, comp2F_eq, compF_eq, consF_eq, eqDF_eq, forF_eq, geF_eq, gtF_eq, ifMF_eq, ifOF_eq, inDF_eq, itF_eq, ixF_eq, leF_eq, lenF_eq, lookF_eq, lsF_eq, ltF_eq, mpF_eq, neDF_eq, ninDF_eq, notMF_eq, notVF_eq, orMF_eq, orVF_eq, putF_eq, retDF_eq, retLF_eq, retXF_eq, rngF_eq, seqDF_eq, seqF_eq, setCF_eq, setDF_eq, setDMF_eq, setXF_eq, sortAllF_eq, sortDicF_eq, tpF_eq, truF_eq, tupF_eq, valF_eq, whileF_eq, chainF_eq, appF_eq]
  refine js_asgE ?_ (jg_t (jgs_cons (jg_n 3 (by decide +kernel)) (jgs_cons (jg_n 4 (by decide +kernel)) (jgs_cons (jg_n 5 (by decide +kernel)) jgs_nil))))
  refine je_call 1 (c__law_drawn_order) ?_
  exact ja_nil
  refine jss_cons ?_ ?_
  unfold lb_1
  try simp only [addF_eq, allF_eq, andMF_eq, andVF_eq, anyF_eq, b1F_eq, b2F_eq, comp2F_eq, compF_eq, consF_eq, eqDF_eq, forF_eq, geF_eq, gtF_eq, ifMF_eq, ifOF_eq, inDF_eq, itF_eq, ixF_eq, leF_eq, lenF_eq, lookF_eq, lsF_eq, ltF_eq, mpF_eq, neDF_eq, ninDF_eq, notMF_eq, notVF_eq, orMF_eq, orVF_eq, putF_eq, retDF_eq, retLF_eq, retXF_eq, rngF_eq, seqDF_eq, seqF_eq, setCF_eq, setDF_eq, setDMF_eq, setXF_eq, sortAllF_eq, sortDicF_eq, tpF_eq, truF_eq, tupF_eq, valF_eq, whileF_eq, chainF_eq, appF_eq]
  refine js_if ?_ ?_ ?_
  refine jt_w ?_
  refine jw_or ?_ ?_
  refine jt_cmp .ne ?_ ?_
  refine jb_x ?_
  refine jx_call (c_closed_order) ?_
  refine ja_cons ?_ ?_
  exact jd_v 3 (by decide +kernel)
  refine ja_cons ?_ ?_
  exact jd_v 4 (by decide +kernel)
  exact ja_nil
  exact jb_v 5 (by decide +kernel)
  refine jw_or ?_ ?_
  refine jt_cmp .ne ?_ ?_
  refine jb_x ?_
  refine jx_call (c_closed_order) ?_
  refine ja_cons ?_ ?_
  exact jd_v 3 (by decide +kernel)
  refine ja_cons ?_ ?_
  refine jd_tuple T.b_tuple ?_
  exact jb_v 4 (by decide +kernel)
  exact ja_nil
  exact jb_v 5 (by decide +kernel)
  refine jw_or1 ?_
  refine jt_not ?_
  refine jt_val ?_
  refine jb_x ?_
  refine jx_call (c__law_says) ?_
  refine ja_cons ?_ ?_
  refine jd_x ?_
  refine jx_call (c_is_order) ?_
  refine ja_cons ?_ ?_
  exact jd_v 3 (by decide +kernel)
  refine ja_cons ?_ ?_
  exact jd_v 5 (by decide +kernel)
  exact ja_nil
  refine ja_cons ?_ ?_
  exact jd_bl
  exact ja_nil
  refine jss_one ?_
  refine js_retD ?_
  exact jd_bl
  exact jss_nil
  refine jss_cons ?_ ?_
  unfold lb_2
  try simp only [addF_eq, allF_eq, andMF_eq, andVF_eq, anyF_eq, b1F_eq, b2F_eq, comp2F_eq, compF_eq, consF_eq, eqDF_eq, forF_eq, geF_eq, gtF_eq, ifMF_eq, ifOF_eq, inDF_eq, itF_eq, ixF_eq, leF_eq, lenF_eq, lookF_eq, lsF_eq, ltF_eq, mpF_eq, neDF_eq, ninDF_eq, notMF_eq, notVF_eq, orMF_eq, orVF_eq, putF_eq, retDF_eq, retLF_eq, retXF_eq, rngF_eq, seqDF_eq, seqF_eq, setCF_eq, setDF_eq, setDMF_eq, setXF_eq, sortAllF_eq, sortDicF_eq, tpF_eq, truF_eq, tupF_eq, valF_eq, whileF_eq, chainF_eq, appF_eq]
  refine js_comp true 6 (own := [("own", 7)]) ?_ (jg_n 7 (by decide +kernel)) ?_ ?_
  refine ji_seq ?_
  refine jb_x ?_
  refine jx_call (c__law_sets_of) ?_
  refine ja_cons ?_ ?_
  exact jd_v 3 (by decide +kernel)
  exact ja_nil
  refine jts_one ?_
  refine jt_val ?_
  refine jb_d ?_
  refine jd_all T.b_all ?_
  refine jb_l ?_
  refine jl_comp (own := [("a", 8), ("b", 9)]) ?_ (jg_t (jgs_cons (jg_n 8 (by decide +kernel)) (jgs_cons (jg_n 9 (by decide +kernel)) jgs_nil))) ?_ ?_
  refine ji_seq ?_
  exact jb_v 5 (by decide +kernel)
  refine jts_one ?_
  refine jt_cmp .inn ?_ ?_ (by with_unfolding_all rfl)
  exact jb_v 8 (by decide +kernel)
  exact jb_v 7 (by decide +kernel)
  refine jd_j ?_
  refine jc_cmp .inn ?_ ?_ (by with_unfolding_all rfl)
  exact jb_v 9 (by decide +kernel)
  exact jb_v 7 (by decide +kernel)
  exact jd_v 7 (by decide +kernel)
  refine jss_cons ?_ ?_
  unfold lb_3
  try simp only [addF_eq, allF_eq, andMF_eq, andVF_eq, anyF_eq, b1F_eq, b2F_eq, comp2F_eq, compF_eq, consF_eq, eqDF_eq, forF_eq, geF_eq, gtF_eq, ifMF_eq, ifOF_eq, inDF_eq, itF_eq, ixF_eq, leF_eq, lenF_eq, lookF_eq, lsF_eq, ltF_eq, mpF_eq, neDF_eq, ninDF_eq, notMF_eq, notVF_eq, orMF_eq, orVF_eq, putF_eq, retDF_eq, retLF_eq, retXF_eq, rngF_eq, seqDF_eq, seqF_eq, setCF_eq, setDF_eq, setDMF_eq, setXF_eq, sortAllF_eq, sortDicF_eq, tpF_eq, truF_eq, tupF_eq, valF_eq, whileF_eq, chainF_eq, appF_eq]
  refine js_comp true 10 (own := [("own", 7)]) ?_ (jg_n 7 (by decide +kernel)) ?_ ?_
  refine ji_seq ?_
  refine jb_x ?_
  refine jx_call (c__law_sets_of) ?_
  refine ja_cons ?_ ?_
  exact jd_v 3 (by decide +kernel)
  exact ja_nil
  refine jts_one ?_
  refine jt_not ?_
  refine jt_val ?_
  refine jb_d ?_
  refine jd_any T.b_any ?_
  refine jb_l ?_
  refine jl_comp (own := [("a", 8), ("b", 9)]) ?_ (jg_t (jgs_cons (jg_n 8 (by decide +kernel)) (jgs_cons (jg_n 9 (by decide +kernel)) jgs_nil))) ?_ ?_
  refine ji_seq ?_
  exact jb_v 5 (by decide +kernel)
  exact jts_nil
  refine jd_and ?_ ?_
  refine jd_j ?_
  refine jc_cmp .inn ?_ ?_ (by with_unfolding_all rfl)
  exact jb_v 8 (by decide +kernel)
  exact jb_v 7 (by decide +kernel)
  refine jd_one ?_
  refine jd_j ?_
  refine jc_cmp .inn ?_ ?_ (by with_unfolding_all rfl)
  exact jb_v 9 (by decide +kernel)
  exact jb_v 7 (by decide +kernel)
  exact jd_v 7 (by decide +kernel)
  refine jss_cons ?_ ?_
  unfold lb_4
  try simp only [addF_eq, allF_eq, andMF_eq, andVF_eq, anyF_eq, b1F_eq, b2F_eq, comp2F_eq, compF_eq, consF_eq, eqDF_eq, forF_eq, geF_eq, gtF_eq, ifMF_eq, ifOF_eq, inDF_eq, itF_eq, ixF_eq, leF_eq, lenF_eq, lookF_eq, lsF_eq, ltF_eq, mpF_eq, neDF_eq, ninDF_eq, notMF_eq, notVF_eq, orMF_eq, orVF_eq, putF_eq, retDF_eq, retLF_eq, retXF_eq, rngF_eq, seqDF_eq, seqF_eq, setCF_eq, setDF_eq, setDMF_eq, setXF_eq, sortAllF_eq, sortDicF_eq, tpF_eq, truF_eq, tupF_eq, valF_eq, whileF_eq, chainF_eq, appF_eq]
  refine js_if ?_ ?_ ?_
  refine jt_w ?_
  refine jw_or ?_ ?_
  refine jt_not ?_
  refine jt_val ?_
  refine jb_x ?_
  refine jx_call (c__law_same) ?_
  refine ja_cons ?_ ?_
  refine jd_x ?_
  refine jx_call (c_filters) ?_
  refine ja_cons ?_ ?_
  exact jd_v 3 (by decide +kernel)
  refine ja_cons ?_ ?_
  exact jd_v 5 (by decide +kernel)
  exact ja_nil
  refine ja_cons ?_ ?_
  refine jd_tuple T.b_tuple ?_
  exact jb_v 6 (by decide +kernel)
  exact ja_nil
  refine jw_or ?_ ?_
  refine jt_not ?_
  refine jt_val ?_
  refine jb_x ?_
  refine jx_call (c__law_same) ?_
  refine ja_cons ?_ ?_
  refine jd_x ?_
  refine jx_call (c_antichains) ?_
  refine ja_cons ?_ ?_
  exact jd_v 3 (by decide +kernel)
  refine ja_cons ?_ ?_
  exact jd_v 5 (by decide +kernel)
  exact ja_nil
  refine ja_cons ?_ ?_
  refine jd_tuple T.b_tuple ?_
  exact jb_v 10 (by decide +kernel)
  exact ja_nil
  refine jw_or1 ?_
  refine jt_cmp .ne ?_ ?_
  refine jb_d ?_
  refine jd_len T.b_len ?_
  exact jb_v 6 (by decide +kernel)
  refine jb_d ?_
  refine jd_len T.b_len ?_
  exact jb_v 10 (by decide +kernel)
  refine jss_one ?_
  refine js_retD ?_
  exact jd_bl
  exact jss_nil
  refine jss_cons ?_ ?_
  unfold lb_5
  try simp only [addF_eq, allF_eq, andMF_eq, andVF_eq, anyF_eq, b1F_eq, b2F_eq, comp2F_eq, compF_eq, consF_eq, eqDF_eq, forF_eq, geF_eq, gtF_eq, ifMF_eq, ifOF_eq, inDF_eq, itF_eq, ixF_eq, leF_eq, lenF_eq, lookF_eq, lsF_eq, ltF_eq, mpF_eq, neDF_eq, ninDF_eq, notMF_eq, notVF_eq, orMF_eq, orVF_eq, putF_eq, retDF_eq, retLF_eq, retXF_eq, rngF_eq, seqDF_eq, seqF_eq, setCF_eq, setDF_eq, setDMF_eq, setXF_eq, sortAllF_eq, sortDicF_eq, tpF_eq, truF_eq, tupF_eq, valF_eq, whileF_eq, chainF_eq, appF_eq]
  refine js_setD 11 ?_
  refine jd_x ?_
  refine jx_call (c__law_rows_of) ?_
  refine ja_cons ?_ ?_
  exact jd_v 3 (by decide +kernel)
  refine ja_cons ?_ ?_
  exact jd_v 5 (by decide +kernel)
  exact ja_nil
  refine jss_cons ?_ ?_
  unfold lb_6
  try simp only [addF_eq, allF_eq, andMF_eq, andVF_eq, anyF_eq, b1F_eq, b2F_eq, comp2F_eq, compF_eq, consF_eq, eqDF_eq, forF_eq, geF_eq, gtF_eq, ifMF_eq, ifOF_eq, inDF_eq, itF_eq, ixF_eq, leF_eq, lenF_eq, lookF_eq, lsF_eq, ltF_eq, mpF_eq, neDF_eq, ninDF_eq, notMF_eq, notVF_eq, orMF_eq, orVF_eq, putF_eq, retDF_eq, retLF_eq, retXF_eq, rngF_eq, seqDF_eq, seqF_eq, setCF_eq, setDF_eq, setDMF_eq, setXF_eq, sortAllF_eq, sortDicF_eq, tpF_eq, truF_eq, tupF_eq, valF_eq, whileF_eq, chainF_eq, appF_eq]
  refine js_comp true 12 (own := [("a", 8), ("b", 9)]) ?_ (jg_t (jgs_cons (jg_n 8 (by decide +kernel)) (jgs_cons (jg_n 9 (by decide +kernel)) jgs_nil))) ?_ ?_
  refine ji_seq ?_
  exact jb_v 5 (by decide +kernel)
  refine jts_one ?_
  refine jt_not ?_
  refine jt_val ?_
  refine jb_d ?_
  refine jd_any T.b_any ?_
  refine jb_l ?_
  refine jl_comp (own := [("c", 13)]) ?_ (jg_n 13 (by decide +kernel)) ?_ ?_
  refine ji_f ?_
  refine jif_rng1 T.b_range ?_
  exact jb_v 3 (by decide +kernel)
  exact jts_nil
  refine jd_and ?_ ?_
  refine jd_j ?_
  refine jc_cmp .inn ?_ ?_ (by with_unfolding_all rfl)
  refine jb_d ?_
  refine jd_tup ?_
  refine ja_cons ?_ ?_
  exact jd_v 8 (by decide +kernel)
  refine ja_cons ?_ ?_
  exact jd_v 13 (by decide +kernel)
  exact ja_nil
  exact jb_v 5 (by decide +kernel)
  refine jd_one ?_
  refine jd_j ?_
  refine jc_cmp .inn ?_ ?_ (by with_unfolding_all rfl)
  refine jb_d ?_
  refine jd_tup ?_
  refine ja_cons ?_ ?_
  exact jd_v 13 (by decide +kernel)
  refine ja_cons ?_ ?_
  exact jd_v 9 (by decide +kernel)
  exact ja_nil
  exact jb_v 5 (by decide +kernel)
  refine jd_tup ?_
  refine ja_cons ?_ ?_
  exact jd_v 8 (by decide +kernel)
  refine ja_cons ?_ ?_
  exact jd_v 9 (by decide +kernel)
  exact ja_nil
  refine jss_cons ?_ ?_
  unfold lb_7
  try simp only [addF_eq, allF_eq, andMF_eq, andVF_eq, anyF_eq, b1F_eq, b2F_eq, comp2F_eq, compF_eq, consF_eq, eqDF_eq, forF_eq, geF_eq, gtF_eq, ifMF_eq, ifOF_eq, inDF_eq, itF_eq, ixF_eq, leF_eq, lenF_eq, lookF_eq, lsF_eq, ltF_eq, mpF_eq, neDF_eq, ninDF_eq, notMF_eq, notVF_eq, orMF_eq, orVF_eq, putF_eq, retDF_eq, retLF_eq, retXF_eq, rngF_eq, seqDF_eq, seqF_eq, setCF_eq, setDF_eq, setDMF_eq, setXF_eq, sortAllF_eq, sortDicF_eq, tpF_eq, truF_eq, tupF_eq, valF_eq, whileF_eq, chainF_eq, appF_eq]
  refine js_setD 14 ?_
  refine jd_maxL T.b_max ?_
  refine jb_l ?_
  refine jl_comp (own := [("own", 7)]) ?_ (jg_n 7 (by decide +kernel)) ?_ ?_
  refine ji_seq ?_
  refine jb_x ?_
  refine jx_call (c__law_sets_of) ?_
  refine ja_cons ?_ ?_
  exact jd_v 3 (by decide +kernel)
  exact ja_nil
  refine jts_one ?_
  refine jt_val ?_
  refine jb_x ?_
  refine jx_call (c__law_is_chain) ?_
  refine ja_cons ?_ ?_
  exact jd_v 7 (by decide +kernel)
  refine ja_cons ?_ ?_
  exact jd_v 5 (by decide +kernel)
  exact ja_nil
  refine jd_len T.b_len ?_
  exact jb_v 7 (by decide +kernel)
  refine jss_cons ?_ ?_
  unfold lb_8
  try simp only [addF_eq, allF_eq, andMF_eq, andVF_eq, anyF_eq, b1F_eq, b2F_eq, comp2F_eq, compF_eq, consF_eq, eqDF_eq, forF_eq, geF_eq, gtF_eq, ifMF_eq, ifOF_eq, inDF_eq, itF_eq, ixF_eq, leF_eq, lenF_eq, lookF_eq, lsF_eq, ltF_eq, mpF_eq, neDF_eq, ninDF_eq, notMF_eq, notVF_eq, orMF_eq, orVF_eq, putF_eq, retDF_eq, retLF_eq, retXF_eq, rngF_eq, seqDF_eq, seqF_eq, setCF_eq, setDF_eq, setDMF_eq, setXF_eq, sortAllF_eq, sortDicF_eq, tpF_eq, truF_eq, tupF_eq, valF_eq, whileF_eq, chainF_eq, appF_eq]
  refine js_if ?_ ?_ ?_
  refine jt_w ?_
  refine jw_or ?_ ?_
  refine jt_not ?_
  refine jt_val ?_
  refine jb_x ?_
  refine jx_call (c__law_same) ?_
  refine ja_cons ?_ ?_
  refine jd_x ?_
  refine jx_call (c_extensions) ?_
  refine ja_cons ?_ ?_
  exact jd_v 3 (by decide +kernel)
  refine ja_cons ?_ ?_
  exact jd_v 5 (by decide +kernel)
  exact ja_nil
  refine ja_cons ?_ ?_
  refine jd_tuple T.b_tuple ?_
  exact jb_v 11 (by decide +kernel)
  exact ja_nil
  refine jw_or ?_ ?_
  refine jt_not ?_
  refine jt_val ?_
  refine jb_x ?_
  refine jx_call (c__law_same) ?_
  refine ja_cons ?_ ?_
  refine jd_x ?_
  refine jx_call (c_covers) ?_
  refine ja_cons ?_ ?_
  exact jd_v 3 (by decide +kernel)
  refine ja_cons ?_ ?_
  exact jd_v 5 (by decide +kernel)
  exact ja_nil
  refine ja_cons ?_ ?_
  refine jd_tuple T.b_tuple ?_
  exact jb_v 12 (by decide +kernel)
  exact ja_nil
  refine jw_or1 ?_
  refine jt_not ?_
  refine jt_val ?_
  refine jb_x ?_
  refine jx_call (c__law_same) ?_
  refine ja_cons ?_ ?_
  refine jd_x ?_
  refine jx_call (c_longest_chain) ?_
  refine ja_cons ?_ ?_
  exact jd_v 3 (by decide +kernel)
  refine ja_cons ?_ ?_
  exact jd_v 5 (by decide +kernel)
  exact ja_nil
  refine ja_cons ?_ ?_
  exact jd_v 14 (by decide +kernel)
  exact ja_nil
  refine jss_one ?_
  refine js_retD ?_
  exact jd_bl
  exact jss_nil
  refine jss_cons ?_ ?_
  unfold lb_9
  try simp only [addF_eq, allF_eq, andMF_eq, andVF_eq, anyF_eq, b1F_eq, b2F_eq, comp2F_eq, compF_eq, consF_eq, eqDF_eq, forF_eq, geF_eq, gtF_eq, ifMF_eq, ifOF_eq, inDF_eq, itF_eq, ixF_eq, leF_eq, lenF_eq, lookF_eq, lsF_eq, ltF_eq, mpF_eq, neDF_eq, ninDF_eq, notMF_eq, notVF_eq, orMF_eq, orVF_eq, putF_eq, retDF_eq, retLF_eq, retXF_eq, rngF_eq, seqDF_eq, seqF_eq, setCF_eq, setDF_eq, setDMF_eq, setXF_eq, sortAllF_eq, sortDicF_eq, tpF_eq, truF_eq, tupF_eq, valF_eq, whileF_eq, chainF_eq, appF_eq]
  refine js_if ?_ ?_ ?_
  refine jt_not ?_
  refine jt_val ?_
  refine jb_x ?_
  refine jx_call (c__law_says) ?_
  refine ja_cons ?_ ?_
  refine jd_x ?_
  refine jx_call (c_natural) ?_
  refine ja_cons ?_ ?_
  exact jd_v 3 (by decide +kernel)
  refine ja_cons ?_ ?_
  exact jd_v 5 (by decide +kernel)
  exact ja_nil
  refine ja_cons ?_ ?_
  refine jd_all T.b_all ?_
  refine jb_l ?_
  refine jl_comp (own := [("a", 8), ("b", 9)]) ?_ (jg_t (jgs_cons (jg_n 8 (by decide +kernel)) (jgs_cons (jg_n 9 (by decide +kernel)) jgs_nil))) ?_ ?_
  refine ji_seq ?_
  exact jb_v 5 (by decide +kernel)
  exact jts_nil
  refine jd_j ?_
  refine jc_cmp .lt ?_ ?_
  exact jb_v 8 (by decide +kernel)
  exact jb_v 9 (by decide +kernel)
  exact ja_nil
  refine jss_one ?_
  refine js_retD ?_
  exact jd_bl
  exact jss_nil
  refine jss_cons ?_ ?_
  unfold lb_10
  try simp only [addF_eq, allF_eq, andMF_eq, andVF_eq, anyF_eq, b1F_eq, b2F_eq, comp2F_eq, compF_eq, consF_eq, eqDF_eq, forF_eq, geF_eq, gtF_eq, ifMF_eq, ifOF_eq, inDF_eq, itF_eq, ixF_eq, leF_eq, lenF_eq, lookF_eq, lsF_eq, ltF_eq, mpF_eq, neDF_eq, ninDF_eq, notMF_eq, notVF_eq, orMF_eq, orVF_eq, putF_eq, retDF_eq, retLF_eq, retXF_eq, rngF_eq, seqDF_eq, seqF_eq, setCF_eq, setDF_eq, setDMF_eq, setXF_eq, sortAllF_eq, sortDicF_eq, tpF_eq, truF_eq, tupF_eq, valF_eq, whileF_eq, chainF_eq, appF_eq]
  refine js_setD 15 ?_
  refine jd_l ?_
  refine jl_lst ?_
  refine ja_cons ?_ ?_
  exact jd_v 5 (by decide +kernel)
  refine ja_cons ?_ ?_
  refine jd_l ?_
  refine jl_list T.b_list ?_
  exact jb_v 5 (by decide +kernel)
  refine ja_cons ?_ ?_
  refine jd_x ?_
  refine jx_add ?_ ?_
  exact jb_v 5 (by decide +kernel)
  refine jb_d ?_
  refine jd_tup ?_
  refine ja_cons ?_ ?_
  refine jd_tup ?_
  refine ja_cons ?_ ?_
  exact jd_int
  refine ja_cons ?_ ?_
  exact jd_int
  exact ja_nil
  exact ja_nil
  refine ja_cons ?_ ?_
  refine jd_revT ?_
  exact jb_v 5 (by decide +kernel)
  refine ja_cons ?_ ?_
  refine jd_x ?_
  refine jx_add ?_ ?_
  exact jb_v 5 (by decide +kernel)
  refine jb_d ?_
  refine jd_tup ?_
  refine ja_cons ?_ ?_
  refine jd_tup ?_
  refine ja_cons ?_ ?_
  exact jd_int
  refine ja_cons ?_ ?_
  exact jd_v 3 (by decide +kernel)
  exact ja_nil
  exact ja_nil
  refine ja_cons ?_ ?_
  exact jd_non
  refine ja_cons ?_ ?_
  exact jd_int
  refine ja_cons ?_ ?_
  refine jd_tup ?_
  refine ja_cons ?_ ?_
  refine jd_tup ?_
  refine ja_cons ?_ ?_
  exact jd_int
  refine ja_cons ?_ ?_
  exact jd_int
  refine ja_cons ?_ ?_
  exact jd_int
  exact ja_nil
  exact ja_nil
  refine ja_cons ?_ ?_
  refine jd_tup ?_
  refine ja_cons ?_ ?_
  refine jd_tup ?_
  refine ja_cons ?_ ?_
  exact jd_bl
  refine ja_cons ?_ ?_
  exact jd_int
  exact ja_nil
  exact ja_nil
  refine ja_cons ?_ ?_
  refine jd_tup ?_
  refine ja_cons ?_ ?_
  refine jd_l ?_
  refine jl_lst ?_
  refine ja_cons ?_ ?_
  exact jd_int
  refine ja_cons ?_ ?_
  exact jd_int
  exact ja_nil
  exact ja_nil
  refine ja_cons ?_ ?_
  refine jd_tup ?_
  refine ja_cons ?_ ?_
  refine jd_tup ?_
  refine ja_cons ?_ ?_
  exact jd_str
  refine ja_cons ?_ ?_
  exact jd_str
  exact ja_nil
  exact ja_nil
  exact ja_nil
  refine jss_cons ?_ ?_
  unfold lb_11
  try simp only [addF_eq, allF_eq, andMF_eq, andVF_eq, anyF_eq, b1F_eq, b2F_eq, comp2F_eq, compF_eq, consF_eq, eqDF_eq, forF_eq, geF_eq, gtF_eq, ifMF_eq, ifOF_eq, inDF_eq, itF_eq, ixF_eq, leF_eq, lenF_eq, lookF_eq, lsF_eq, ltF_eq, mpF_eq, neDF_eq, ninDF_eq, notMF_eq, notVF_eq, orMF_eq, orVF_eq, putF_eq, retDF_eq, retLF_eq, retXF_eq, rngF_eq, seqDF_eq, seqF_eq, setCF_eq, setDF_eq, setDMF_eq, setXF_eq, sortAllF_eq, sortDicF_eq, tpF_eq, truF_eq, tupF_eq, valF_eq, whileF_eq, chainF_eq, appF_eq]
  refine js_for ?_ (jg_n 16 (by decide +kernel)) ?_
  refine jif_seq ?_
  exact jd_v 15 (by decide +kernel)
  refine jss_cons ?_ ?_
  refine js_setD 17 ?_
  refine jd_and ?_ ?_
  refine jd_j ?_
  refine jc_isi .tuple T.b_isinstance T.b_tuple ?_
  exact jb_v 16 (by decide +kernel)
  refine jd_one ?_
  refine jd_all T.b_all ?_
  refine jb_l ?_
  refine jl_comp (own := [("own", 7)]) ?_ (jg_n 7 (by decide +kernel)) ?_ ?_
  refine ji_seq ?_
  exact jb_v 16 (by decide +kernel)
  exact jts_nil
  refine jd_and ?_ ?_
  refine jd_j ?_
  refine jc_isi .tuple T.b_isinstance T.b_tuple ?_
  exact jb_v 7 (by decide +kernel)
  refine jd_and ?_ ?_
  refine jd_j ?_
  refine jc_cmp .eq ?_ ?_
  refine jb_d ?_
  refine jd_len T.b_len ?_
  exact jb_v 7 (by decide +kernel)
  refine jb_d ?_
  exact jd_int
  refine jd_and ?_ ?_
  refine jd_all T.b_all ?_
  refine jb_l ?_
  refine jl_comp (own := [("x", 18)]) ?_ (jg_n 18 (by decide +kernel)) ?_ ?_
  refine ji_seq ?_
  exact jb_v 7 (by decide +kernel)
  exact jts_nil
  refine jd_and ?_ ?_
  refine jd_x ?_
  refine jx_call (c__law_is_whole) ?_
  refine ja_cons ?_ ?_
  exact jd_v 18 (by decide +kernel)
  exact ja_nil
  refine jd_one ?_
  refine jd_j ?_
  refine jc_chain .le .lt ?_ ?_ ?_
  refine jb_d ?_
  exact jd_int
  exact jb_v 18 (by decide +kernel)
  exact jb_v 3 (by decide +kernel)
  refine jd_one ?_
  refine jd_j ?_
  refine jc_cmp .ne ?_ ?_
  refine jb_d ?_
  refine jd_ix ?_ ?_
  exact jb_v 7 (by decide +kernel)
  refine jb_d ?_
  exact jd_int
  refine jb_d ?_
  refine jd_ix ?_ ?_
  exact jb_v 7 (by decide +kernel)
  refine jb_d ?_
  exact jd_int
  refine jss_cons ?_ ?_
  refine js_setD 17 ?_
  refine jd_and ?_ ?_
  exact jd_v 17 (by decide +kernel)
  refine jd_and ?_ ?_
  refine jd_j ?_
  refine jc_cmp .eq ?_ ?_
  refine jb_l ?_
  refine jl_list T.b_list ?_
  exact jb_v 16 (by decide +kernel)
  refine jb_l ?_
  refine jl_sortSet T.b_sorted T.b_set ?_
  exact jb_v 16 (by decide +kernel)
  refine jd_and ?_ ?_
  refine jd_j ?_
  refine jc_cmp .eq ?_ ?_
  refine jb_x ?_
  refine jx_call (c__law_closed_pairs) ?_
  refine ja_cons ?_ ?_
  exact jd_v 3 (by decide +kernel)
  refine ja_cons ?_ ?_
  exact jd_v 16 (by decide +kernel)
  exact ja_nil
  refine jb_l ?_
  refine jl_list T.b_list ?_
  exact jb_v 16 (by decide +kernel)
  refine jd_one ?_
  refine jd_not ?_
  refine jd_any T.b_any ?_
  refine jb_l ?_
  refine jl_comp (own := [("a", 8), ("b", 9)]) ?_ (jg_t (jgs_cons (jg_n 8 (by decide +kernel)) (jgs_cons (jg_n 9 (by decide +kernel)) jgs_nil))) ?_ ?_
  refine ji_seq ?_
  exact jb_v 16 (by decide +kernel)
  exact jts_nil
  refine jd_j ?_
  refine jc_cmp .inn ?_ ?_ (by with_unfolding_all rfl)
  refine jb_d ?_
  refine jd_tup ?_
  refine ja_cons ?_ ?_
  exact jd_v 9 (by decide +kernel)
  refine ja_cons ?_ ?_
  exact jd_v 8 (by decide +kernel)
  exact ja_nil
  exact jb_v 16 (by decide +kernel)
  refine jss_cons ?_ ?_
  refine js_if ?_ ?_ ?_
  refine jt_not ?_
  refine jt_val ?_
  refine jb_x ?_
  refine jx_call (c__law_says) ?_
  refine ja_cons ?_ ?_
  refine jd_x ?_
  refine jx_call (c_is_order) ?_
  refine ja_cons ?_ ?_
  exact jd_v 3 (by decide +kernel)
  refine ja_cons ?_ ?_
  exact jd_v 16 (by decide +kernel)
  exact ja_nil
  refine ja_cons ?_ ?_
  exact jd_v 17 (by decide +kernel)
  exact ja_nil
  refine jss_one ?_
  refine js_retD ?_
  exact jd_bl
  exact jss_nil
  refine jss_one ?_
  refine js_if ?_ ?_ ?_
  refine jt_w ?_
  refine jw_and ?_ ?_
  refine jt_not ?_
  refine jt_val ?_
  exact jb_v 17 (by decide +kernel)
  refine jw_and1 ?_
  refine jt_not ?_
  refine jt_val ?_
  refine jb_d ?_
  refine jd_all T.b_all ?_
  refine jb_l ?_
  refine jl_comp (own := [("f", 19)]) ?_ (jg_n 19 (by decide +kernel)) ?_ ?_
  refine ji_seq ?_
  refine jb_d ?_
  refine jd_tup ?_
  refine ja_cons ?_ ?_
  exact jd_def T.v_filters
  refine ja_cons ?_ ?_
  exact jd_def T.v_antichains
  refine ja_cons ?_ ?_
  exact jd_def T.v_extensions
  refine ja_cons ?_ ?_
  exact jd_def T.v_covers
  refine ja_cons ?_ ?_
  exact jd_def T.v_longest_chain
  refine ja_cons ?_ ?_
  exact jd_def T.v_natural
  exact ja_nil
  exact jts_nil
  refine jd_j ?_
  refine jc_cmp .eq ?_ ?_
  refine jb_x ?_
  refine jx_call (c__law_reason) ?_
  refine ja_cons ?_ ?_
  exact jd_v 19 (by decide +kernel)
  refine ja_cons ?_ ?_
  refine jd_tup ?_
  refine ja_cons ?_ ?_
  exact jd_v 3 (by decide +kernel)
  refine ja_cons ?_ ?_
  exact jd_v 16 (by decide +kernel)
  exact ja_nil
  exact ja_nil
  refine jb_d ?_
  exact jd_str
  refine jss_one ?_
  refine js_retD ?_
  exact jd_bl
  exact jss_nil
  refine jss_one ?_
  unfold lb_12
  try simp only [addF_eq, allF_eq, andMF_eq, andVF_eq, anyF_eq, b1F_eq, b2F_eq, comp2F_eq, compF_eq, consF_eq, eqDF_eq, forF_eq, geF_eq, gtF_eq, ifMF_eq, ifOF_eq, inDF_eq, itF_eq, ixF_eq, leF_eq, lenF_eq, lookF_eq, lsF_eq, ltF_eq, mpF_eq, neDF_eq, ninDF_eq, notMF_eq, notVF_eq, orMF_eq, orVF_eq, putF_eq, retDF_eq, retLF_eq, retXF_eq, rngF_eq, seqDF_eq, seqF_eq, setCF_eq, setDF_eq, setDMF_eq, setXF_eq, sortAllF_eq, sortDicF_eq, tpF_eq, truF_eq, tupF_eq, valF_eq, whileF_eq, chainF_eq, appF_eq]
  refine js_if ?_ ?_ ?_
  refine jt_w ?_
  refine jw_or ?_ ?_
  refine jt_val ?_
  refine jb_d ?_
  refine jd_any T.b_any ?_
  refine jb_l ?_
  refine jl_comp (own := [("bad", 20)]) ?_ (jg_n 20 (by decide +kernel)) ?_ ?_
  refine ji_seq ?_
  refine jb_l ?_
  refine jl_lst ?_
  refine ja_cons ?_ ?_
  exact jd_int
  refine ja_cons ?_ ?_
  exact jd_int
  refine ja_cons ?_ ?_
  exact jd_bl
  refine ja_cons ?_ ?_
  exact jd_non
  refine ja_cons ?_ ?_
  exact jd_str
  exact ja_nil
  exact jts_nil
  refine jd_x ?_
  refine jx_call (c_is_order) ?_
  refine ja_cons ?_ ?_
  exact jd_v 20 (by decide +kernel)
  refine ja_cons ?_ ?_
  exact jd_v 5 (by decide +kernel)
  exact ja_nil
  refine jw_or1 ?_
  refine jt_cmp .ne ?_ ?_
  refine jb_x ?_
  refine jx_call (c__law_reason) ?_
  refine ja_cons ?_ ?_
  exact jd_def T.v_closed_order
  refine ja_cons ?_ ?_
  refine jd_tup ?_
  refine ja_cons ?_ ?_
  exact jd_int
  refine ja_cons ?_ ?_
  refine jd_l ?_
  refine jl_lst ?_
  refine ja_cons ?_ ?_
  refine jd_tup ?_
  refine ja_cons ?_ ?_
  exact jd_int
  refine ja_cons ?_ ?_
  exact jd_int
  exact ja_nil
  refine ja_cons ?_ ?_
  refine jd_tup ?_
  refine ja_cons ?_ ?_
  exact jd_int
  refine ja_cons ?_ ?_
  exact jd_int
  exact ja_nil
  exact ja_nil
  exact ja_nil
  exact ja_nil
  refine jb_d ?_
  exact jd_str
  refine jss_one ?_
  refine js_retD ?_
  exact jd_bl
  exact jss_nil
  unfold lr
  try simp only [addF_eq, allF_eq, andMF_eq, andVF_eq, anyF_eq, b1F_eq, b2F_eq, comp2F_eq, compF_eq, consF_eq, eqDF_eq, forF_eq, geF_eq, gtF_eq, ifMF_eq, ifOF_eq, inDF_eq, itF_eq, ixF_eq, leF_eq, lenF_eq, lookF_eq, lsF_eq, ltF_eq, mpF_eq, neDF_eq, ninDF_eq, notMF_eq, notVF_eq, orMF_eq, orVF_eq, putF_eq, retDF_eq, retLF_eq, retXF_eq, rngF_eq, seqDF_eq, seqF_eq, setCF_eq, setDF_eq, setDMF_eq, setXF_eq, sortAllF_eq, sortDicF_eq, tpF_eq, truF_eq, tupF_eq, valF_eq, whileF_eq, chainF_eq, appF_eq]
  refine jss_one ?_
  unfold lr_0
  try simp only [addF_eq, allF_eq, andMF_eq, andVF_eq, anyF_eq, b1F_eq, b2F_eq, comp2F_eq, compF_eq, consF_eq, eqDF_eq, forF_eq, geF_eq, gtF_eq, ifMF_eq, ifOF_eq, inDF_eq, itF_eq, ixF_eq, leF_eq, lenF_eq, lookF_eq, lsF_eq, ltF_eq, mpF_eq, neDF_eq, ninDF_eq, notMF_eq, notVF_eq, orMF_eq, orVF_eq, putF_eq, retDF_eq, retLF_eq, retXF_eq, rngF_eq, seqDF_eq, seqF_eq, setCF_eq, setDF_eq, setDMF_eq, setXF_eq, sortAllF_eq, sortDicF_eq, tpF_eq, truF_eq, tupF_eq, valF_eq, whileF_eq, chainF_eq, appF_eq]
  refine js_retD ?_
  refine jd_all T.b_all ?_
  refine jb_l ?_
  refine jl_comp (own := [("bad", 20)]) ?_ (jg_n 20 (by decide +kernel)) ?_ ?_
  refine ji_seq ?_
  refine jb_l ?_
  refine jl_lst ?_
  refine ja_cons ?_ ?_
  exact jd_non
  refine ja_cons ?_ ?_
  exact jd_int
  refine ja_cons ?_ ?_
  refine jd_l ?_
  refine jl_lst ?_
  refine ja_cons ?_ ?_
  refine jd_tup ?_
  refine ja_cons ?_ ?_
  exact jd_int
  refine ja_cons ?_ ?_
  exact jd_int
  exact ja_nil
  exact ja_nil
  refine ja_cons ?_ ?_
  refine jd_l ?_
  refine jl_lst ?_
  refine ja_cons ?_ ?_
  refine jd_tup ?_
  refine ja_cons ?_ ?_
  exact jd_int
  refine ja_cons ?_ ?_
  exact jd_int
  exact ja_nil
  exact ja_nil
  refine ja_cons ?_ ?_
  refine jd_l ?_
  refine jl_lst ?_
  refine ja_cons ?_ ?_
  refine jd_tup ?_
  refine ja_cons ?_ ?_
  exact jd_int
  refine ja_cons ?_ ?_
  exact jd_bl
  exact ja_nil
  exact ja_nil
  refine ja_cons ?_ ?_
  refine jd_l ?_
  refine jl_lst ?_
  refine ja_cons ?_ ?_
  refine jd_l ?_
  refine jl_lst ?_
  refine ja_cons ?_ ?_
  exact jd_int
  refine ja_cons ?_ ?_
  exact jd_int
  exact ja_nil
  exact ja_nil
  refine ja_cons ?_ ?_
  refine jd_l ?_
  refine jl_lst ?_
  refine ja_cons ?_ ?_
  refine jd_tup ?_
  refine ja_cons ?_ ?_
  exact jd_int
  refine ja_cons ?_ ?_
  exact jd_int
  exact ja_nil
  refine ja_cons ?_ ?_
  refine jd_tup ?_
  refine ja_cons ?_ ?_
  exact jd_int
  refine ja_cons ?_ ?_
  exact jd_int
  exact ja_nil
  refine ja_cons ?_ ?_
  refine jd_tup ?_
  refine ja_cons ?_ ?_
  exact jd_int
  refine ja_cons ?_ ?_
  exact jd_int
  exact ja_nil
  exact ja_nil
  exact ja_nil
  exact jts_nil
  refine jd_j ?_
  refine jc_cmp .eq ?_ ?_
  refine jb_x ?_
  refine jx_call (c__law_reason) ?_
  refine ja_cons ?_ ?_
  exact jd_def T.v_closed_order
  refine ja_cons ?_ ?_
  refine jd_tup ?_
  refine ja_cons ?_ ?_
  exact jd_int
  refine ja_cons ?_ ?_
  exact jd_v 20 (by decide +kernel)
  exact ja_nil
  exact ja_nil
  refine jb_d ?_
  exact jd_str
end
end
end Py
namespace Py
open PySem PySem.Spec PyProof.Rows L2
noncomputable section

/-! ### the draws -/
def Inv2 (a b : Int) : Prop := 0 ≤ a ∧ 0 ≤ b ∧ b < bigM
theorem take_ok {a b m : Int} (h : Inv2 a b) (hm : 0 < m) (hd : divB m = true) : ∃ d a' b', m__law_take a b [.int m] = .ok (.int d, a', b') ∧ 0 ≤ d ∧ d < m ∧ Inv2 a' b' := by
  obtain ⟨h1, h2, h3⟩ := h
  have hm0 : m ≠ 0 := by omega
  have h7 : divB 7 = true := by decide
  have hs : smallB 48271 = true := by decide
  by_cases ha : 0 < a
  · refine ⟨a.fmod m, a.fdiv m, b, ?_, Int.fmod_nonneg_of_pos a hm, Int.fmod_lt_of_pos a hm, Int.fdiv_nonneg h1 (by omega), h2, h3⟩
    simp [b1, b2, mp, kc, setD, stS, retD, retL, lstV, lineP, ifM, consM, nilA, m__law_take, funT, body__law_take, finT, seqO, ifO, retV, R.out, R.bind, R.map, stAt, stSet, valAt, lookAt, CmpK.fd, gtD, intD, modD, fdivD, ha, hm0, hd, Sl.d]
  · refine ⟨((b * 48271 + 11).fmod 2147483647 |>.fdiv 7).fmod m, a, (b * 48271 + 11).fmod 2147483647, ?_, Int.fmod_nonneg_of_pos _ hm, Int.fmod_lt_of_pos _ hm, h1, Int.fmod_nonneg_of_pos _ (by decide), Int.fmod_lt_of_pos _ (by decide)⟩
    simp [b1, b2, mp, kc, setD, stS, retD, retL, lstV, lineP, ifM, consM, nilA, m__law_take, funT, body__law_take, finT, seqO, ifO, retV, R.out, R.bind, R.map, stAt, stSet, valAt, lookAt, CmpK.fd, gtD, intD, modD, fdivD, addD, mulD, mulB, hs, ha, hm0, hd, h7, Sl.d]
/-! ### the law's own first def -/
theorem st_step : StStep st_b st_body := fun a t y c h1 h2 h3 => by
  have hs : smallB 48271 = true := by decide
  have hs2 : smallB 1000003 = true := by decide
  refine ⟨a * 1000003 + (if c < 0 then -c else c), (t * 48271 + c).fmod 2147483647, [none, sI a, sI t, sI c], ?_, Int.fmod_nonneg_of_pos _ (by decide), Int.fmod_lt_of_pos _ (by decide), rfl, ?_⟩
  · have : 0 ≤ (if c < 0 then -c else c) := by split <;> omega
    omega
  · simp [b1, b2, mp, kc, setD, stS, retD, retL, lstV, lineP, ifM, consM, nilA, st_body, seqO, R.out, R.bind, R.map, valAt, lookAt, intD, modD, addD, mulD, mulB, hs, hs2, absD, Sl.d]
theorem st_fin : StFin st_ret := fun a t y h1 h2 h3 => by
  refine ⟨a, if t ≠ 1973665155 then t else 7, [none, sI a, sI t, y], h1, ?_, ?_, ?_⟩
  · split <;> omega
  · split
    · exact h3
    · decide
  · by_cases q : t = 1973665155
    · simp [b1, b2, mp, kc, setD, stS, retD, retL, lstV, lineP, ifM, consM, nilA, st_ret, R.out, R.bind, R.map, valAt, lookAt, CmpK.fd, neD, eqD, q, Sl.d, consM]
    · simp [b1, b2, mp, kc, setD, stS, retD, retL, lstV, lineP, ifM, consM, nilA, st_ret, R.out, R.bind, R.map, valAt, lookAt, CmpK.fd, neD, eqD, q, Sl.d, consM]


/-! ### one turn of the law -/
def pr (i j : Int) : Dv := .tup [.int i, .int j]
def pick : List Bool → List Dv → List Dv
  | true :: bs, d :: ds => d :: pick bs ds
  | false :: bs, _ :: ds => pick bs ds
  | _, _ => []
def stOf : Out → Option (Int × Int)
  | .nx [_, some (.st a b), _, _, _, _, _, _, _, _, _, _, _, _, _, _, _, _, _, _, _] => some (a, b)
  | _ => none
def lbQ : En → Out := seqO lb_2 (seqO lb_3 (seqO lb_4 (seqO lb_5 (seqO lb_6 (seqO lb_7 (seqO lb_8 (seqO lb_9 (seqO lb_10 (seqO lb_11 lb_12)))))))))
def ordOf (n : Int) (ps : List Dv) : List Dv := match m__law_closed_pairs [.int n, .lst ps] with
  | .ok (.own l) => l
  | _ => []
def okOrd (n : Int) (ps : List Dv) : Bool := match m__law_closed_pairs [.int n, .lst ps] with
  | .ok (.own _) => true
  | _ => false
theorem okOrd_of {n : Int} {ps : List Dv} (h : okOrd n ps = true) : m__law_closed_pairs [.int n, .lst ps] = .ok (.own (ordOf n ps)) := by
  unfold okOrd at h
  unfold ordOf
  split at h
  · rename_i l e
    rw [e]
  · cases h
abbrev envB (n : Int) (a b : Int) (x4 : Option Sl) (o : List Dv) (x0 x2 x6 x7 x8 x9 x10 x11 x12 x13 x14 x15 x16 x17 x18 x19 x20 : Option Sl) : En := [x0, some (.st a b), x2, sI n, x4, some (.val (.tup o)), x6, x7, x8, x9, x10, x11, x12, x13, x14, x15, x16, x17, x18, x19, x20]
def bits : Nat → List (List Bool)
  | 0 => [[]]
  | n + 1 => (bits n).map (true :: ·) ++ (bits n).map (false :: ·)
/-- the pairs that names tell -/
def pairsN : List Int → List Dv
  | [] => []
  | x :: r => r.map (fun y => pr x y) ++ pairsN r
def isNx : Out → Bool
  | .nx _ => true
  | _ => false

/-! the pairs that are drawn -/
def eqP (x y : Dv) : Bool := match x, y with
  | .tup [.int a, .int b], .tup [.int c, .int d] => ifF (ieq a c) (ieq b d) false
  | _, _ => false
def eqO (z : List Dv) : List Dv → Bool := List.rec (motive := fun _ => List Dv → Bool) (fun l => List.rec (motive := fun _ => Bool) true (fun _ _ _ => false) l) (fun x _ ih l => List.rec (motive := fun _ => Bool) false (fun y ys _ => ifF (eqP x y) (ih ys) false) l) z
def memO (o : List Dv) (L : List (List Dv)) : Bool := List.rec (motive := fun _ => Bool) false (fun z _ r => ifF (eqO z o) true r) L
theorem eqP_of {x y : Dv} (h : eqP x y = true) : x = y := by
  unfold eqP at h
  split at h
  · rename_i a b c d
    rw [ifF_eq] at h
    split at h
    · rename_i h1
      rw [ieq_eq, beq_iff_eq] at h1 h
      rw [h1, h]
    · cases h
  · cases h
theorem eqO_of : ∀ {z o : List Dv}, eqO z o = true → z = o
  | [], [], _ => rfl
  | [], _ :: _, h => Bool.noConfusion h
  | _ :: _, [], h => Bool.noConfusion h
  | x :: z, y :: o, h => by
    have h : ifF (eqP x y) (eqO z o) false = true := h
    rw [ifF_eq] at h
    split at h
    · rename_i h1
      rw [eqP_of h1, eqO_of h]
    · cases h
theorem memO_of : ∀ {o : List Dv} {L : List (List Dv)}, memO o L = true → o ∈ L
  | _, [], h => Bool.noConfusion h
  | o, z :: L, h => by
    have h : ifF (eqO z o) true (memO o L) = true := h
    rw [ifF_eq] at h
    split at h
    · rename_i h1
      rw [eqO_of h1]
      exact List.mem_cons_self
    · exact List.mem_cons_of_mem _ (memO_of h)
theorem mem_rep {α β : Type} {f : α → β} {c : β} : ∀ {L : List α} {k : Nat}, L.map f = List.replicate k c → ∀ x ∈ L, f x = c
  | [], _, _, x, h => by cases h
  | y :: L, 0, e, _, _ => by cases e
  | y :: L, k + 1, e, x, h => by
    rw [List.map_cons, List.replicate_succ] at e
    obtain ⟨e1, e2⟩ := List.cons.inj e
    rcases List.mem_cons.mp h with q | q
    · rw [q]; exact e1
    · exact mem_rep e2 x q
theorem mem_bits : ∀ bs : List Bool, bs ∈ bits bs.length
  | [] => List.mem_singleton.mpr rfl
  | true :: bs => List.mem_append_left _ (List.mem_map.mpr ⟨bs, mem_bits bs, rfl⟩)
  | false :: bs => List.mem_append_right _ (List.mem_map.mpr ⟨bs, mem_bits bs, rfl⟩)

/-! names -/
inductive Drawn : List Int → List Int → Prop
  | nil : Drawn [] []
  | cons {L p : List Int} (z : Nat) (h : z < L.length) : Drawn (L.eraseIdx z) p → Drawn L (L[z] :: p)
theorem era_map : ∀ (L : List Int) (z : Nat), (L.map Dv.int).eraseIdx z = (L.eraseIdx z).map Dv.int
  | [], _ => rfl
  | _ :: _, 0 => rfl
  | x :: L, z + 1 => by
    show Dv.int x :: (L.map Dv.int).eraseIdx z = _
    rw [era_map L z]
    rfl
def popM : En → Out := dropE (methE 2 appD (methE 3 popD (callT 0 m__law_take (consM (b1 lenD (lookAt 3)) nilA))))
theorem pop_step (a b : Int) (p L : List Int) (x1 x4 x5 x6 x7 : Option Sl) (h : Inv2 a b) (h0 : 0 < L.length) (h1 : L.length ≤ 4) (h2 : p.length ≤ 4) :
    ∃ (z : Nat) (hz : z < L.length) (a' b' : Int), Inv2 a' b' ∧ popM [some (.st a b), x1, some (.own (p.map Dv.int)), some (.own (L.map Dv.int)), x4, x5, x6, x7] = .nx [some (.st a' b'), x1, some (.own ((p ++ [L[z]]).map Dv.int)), some (.own ((L.eraseIdx z).map Dv.int)), x4, x5, x6, x7] := by
  obtain ⟨d, a', b', e1, z0, z1, i1⟩ := take_ok (m := (L.length : Int)) h (by omega) (by
    have : L.length = 1 ∨ L.length = 2 ∨ L.length = 3 ∨ L.length = 4 := by omega
    rcases this with q | q | q | q <;> rw [q] <;> decide)
  obtain ⟨z, rfl⟩ := Int.eq_ofNat_of_zero_le z0
  have hz : z < L.length := by omega
  refine ⟨z, hz, a', b', i1, ?_⟩
  have ei : ixN L.length (z : Int) = some z := by
    unfold ixN
    rw [if_pos (by omega), if_pos (by omega)]
    simp
  have eg : (L.map Dv.int)[z]? = some (Dv.int L[z]) := by rw [List.getElem?_map, List.getElem?_eq_getElem hz]; rfl
  have ee : (L.map Dv.int).eraseIdx z = (L.eraseIdx z).map Dv.int := era_map L z
  have eb : -1000000 ≤ (z : Int) ∧ (z : Int) ≤ 1000000 := by omega
  have el : p.length < lineP := by have : lineP = 1000000 := rfl; omega
  simp [popM, dropE, consM, nilA, b1, methE, isOwn, callT, lookAt, lenD, R.bind, R.map, R.calm, R.out, e1, wrL, popD, appD, ei, eg, ee, eb, el]
theorem pop_loop : ∀ (ds : List Dv) (a b : Int) (p L : List Int) (x1 x4 x5 x6 x7 : Option Sl), Inv2 a b → ds.length = L.length → p.length + L.length ≤ 4 →
    ∃ (q : List Int) (a' b' : Int) (x4' : Option Sl), Drawn L q ∧ Inv2 a' b' ∧ loopD (putM 4) popM ds [some (.st a b), x1, some (.own (p.map Dv.int)), some (.own (L.map Dv.int)), x4, x5, x6, x7] = .nx [some (.st a' b'), x1, some (.own ((p ++ q).map Dv.int)), some (.own []), x4', x5, x6, x7]
  | [], a, b, p, L, x1, x4, x5, x6, x7, h, hl, _ => by
    cases L with
    | nil => exact ⟨[], a, b, x4, .nil, h, by rw [List.append_nil]; rfl⟩
    | cons x L => cases hl
  | d :: ds, a, b, p, L, x1, x4, x5, x6, x7, h, hl, hs => by
    obtain ⟨z, hz, a1, b1', i1, e1⟩ := pop_step a b p L x1 (some (.val d)) x5 x6 x7 h (by rw [← hl]; exact Nat.succ_pos _) (by omega) (by omega)
    have hle : (L.eraseIdx z).length = L.length - 1 := List.length_eraseIdx_of_lt hz
    rw [List.length_cons] at hl
    obtain ⟨q, a2, b2', x4', dq, i2, e2⟩ := pop_loop ds a1 b1' (p ++ [L[z]]) (L.eraseIdx z) x1 (some (.val d)) x5 x6 x7 i1 (by omega) (by rw [List.length_append, List.length_singleton]; omega)
    refine ⟨L[z] :: q, a2, b2', x4', .cons z hz dq, i2, ?_⟩
    show (match popM [some (.st a b), x1, some (.own (p.map Dv.int)), some (.own (L.map Dv.int)), some (.val d), x5, x6, x7] with
      | .nx e' => loopD (putM 4) popM ds e'
      | .ct e' => loopD (putM 4) popM ds e'
      | .bk e' => .nx e'
      | o => o) = _
    rw [e1]
    dsimp only
    rw [e2, List.append_assoc]
    rfl
/-! pairs -/
def tM : En → R (Bool × En) := cmpE (CmpK.fd .eq) (callT 0 m__law_take (consM (kc (.int 2)) nilA)) (keepE (kc (.int 0)))
def eM : En → R (Dv × En) := keepE (tupV (consM (b2 ixD (lookAt 2) (lookAt 6)) (consM (b2 ixD (lookAt 2) (lookAt 7)) nilA)))
theorem draw_list (nm : List Int) : ∀ (ds : List (Nat × Nat)) (a b : Int) (x1 x3 x4 x5 : Option Sl), Inv2 a b → (∀ q ∈ ds, q.1 < nm.length ∧ q.2 < nm.length) → ∃ bs a' b', bs.length = ds.length ∧ Inv2 a' b' ∧
    compE (tupM [putM 6, putM 7]) tM eM [6, 7] (ds.map fun q => pr q.1 q.2) [some (.st a b), x1, some (.own (nm.map Dv.int)), x3, x4, x5, none, none] =
      .ok (pick bs (ds.map fun q => pr (nm.getD q.1 0) (nm.getD q.2 0)), [some (.st a' b'), x1, some (.own (nm.map Dv.int)), x3, x4, x5, none, none])
  | [], a, b, x1, x3, x4, x5, h, _ => ⟨[], a, b, rfl, h, rfl⟩
  | q :: ds, a, b, x1, x3, x4, x5, h, hq => by
    obtain ⟨z, a1, b1', e1, z0, z1, h1⟩ := take_ok (m := 2) h (by decide) (by decide)
    obtain ⟨bs, a2, b2', l2, h2, e2⟩ := draw_list nm ds a1 b1' x1 x3 x4 x5 h1 fun r hr => hq r (List.mem_cons_of_mem _ hr)
    obtain ⟨q1, q2⟩ := hq q List.mem_cons_self
    have et : tM [some (.st a b), x1, some (.own (nm.map Dv.int)), x3, x4, x5, some (.val (.int q.1)), some (.val (.int q.2))] = .ok (z == 0, [some (.st a1 b1'), x1, some (.own (nm.map Dv.int)), x3, x4, x5, some (.val (.int q.1)), some (.val (.int q.2))]) := by
      simp [tM, cmpE, callT, keepE, consM, nilA, kc, lineP, R.bind, R.map, R.calm, e1, CmpK.fd, eqD]
    have at_ : ∀ i : Nat, i < nm.length → ixD (.lst (nm.map Dv.int)) (.int i) = .ok (.int (nm.getD i 0)) := fun i hi => by
      show (match atI (nm.map Dv.int) (Int.ofNat i) with | some d => R.ok d | none => R.stuck) = _
      rw [atI_nat', List.getElem?_map, List.getElem?_eq_getElem hi]
      simp [hi]
    have ee : eM [some (.st a1 b1'), x1, some (.own (nm.map Dv.int)), x3, x4, x5, some (.val (.int q.1)), some (.val (.int q.2))] = .ok (pr (nm.getD q.1 0) (nm.getD q.2 0), [some (.st a1 b1'), x1, some (.own (nm.map Dv.int)), x3, x4, x5, some (.val (.int q.1)), some (.val (.int q.2))]) := by
      simp [eM, keepE, tupV, consM, nilA, b2, lineP, R.bind, R.map, lookAt, at_ q.1 q1, at_ q.2 q2, pr]
    by_cases hz : z = 0
    · refine ⟨true :: bs, a2, b2', by rw [List.length_cons, List.length_cons, l2], h2, ?_⟩
      rw [List.map_cons, List.map_cons]
      have b1 : (z == 0) = true := by rw [hz]; rfl
      rw [b1] at et
      show R.bind (.ok [some (.st a b), x1, some (.own (nm.map Dv.int)), x3, x4, x5, some (.val (.int q.1)), some (.val (.int q.2))]) _ = _
      simp only [R.bind]
      rw [et]
      simp only [if_true]
      rw [ee]
      simp only [wipeE, List.set]
      rw [e2]
      rfl
    · refine ⟨false :: bs, a2, b2', by rw [List.length_cons, List.length_cons, l2], h2, ?_⟩
      rw [List.map_cons, List.map_cons]
      have b1 : (z == 0) = false := beq_eq_false_iff_ne.mpr hz
      rw [b1] at et
      show R.bind (.ok [some (.st a b), x1, some (.own (nm.map Dv.int)), x3, x4, x5, some (.val (.int q.1)), some (.val (.int q.2))]) _ = _
      simp only [R.bind]
      rw [et]
      simp only [Bool.false_eq_true, if_false, wipeE, List.set]
      rw [e2]
      rfl
/-! the drawn order -/
def drawnAll : Nat → List Int → List (List Int)
  | 0, _ => [[]]
  | n + 1, L => (List.range L.length).flatMap fun z => (drawnAll n (L.eraseIdx z)).map fun p => L.getD z 0 :: p
theorem drawn_all {L p : List Int} (h : Drawn L p) : p ∈ drawnAll L.length L := by
  induction h with
  | nil => exact List.mem_singleton.mpr rfl
  | @cons L p z hz _ ih =>
    have hle : (L.eraseIdx z).length = L.length - 1 := List.length_eraseIdx_of_lt hz
    obtain ⟨n, hn⟩ : ∃ n, L.length = n + 1 := ⟨L.length - 1, by omega⟩
    rw [hn]
    unfold drawnAll
    rw [hle, hn] at ih
    refine List.mem_flatMap.mpr ⟨z, List.mem_range.mpr hz, List.mem_map.mpr ⟨p, ih, ?_⟩⟩
    rw [List.getD_eq_getElem?_getD, List.getElem?_eq_getElem hz]
    rfl
def idx : Nat → List (Nat × Nat)
  | 2 => [(0, 1)]
  | 3 => [(0, 1), (0, 2), (1, 2)]
  | 4 => [(0, 1), (0, 2), (0, 3), (1, 2), (1, 3), (2, 3)]
  | _ => []
def intsN (n : Nat) : List Int := (List.range n).map fun (i : Nat) => (i : Int)
/-- what a draw may give -/
def Case (n : Nat) (ps : List Dv) : Prop := 1 ≤ n ∧ n ≤ 4 ∧ ∃ nm ∈ drawnAll n (intsN n), ∃ bs : List Bool, bs.length = (idx n).length ∧ ps = pick bs (pairsN nm)
theorem drawn_len {L p : List Int} (h : Drawn L p) : p.length = L.length := by
  induction h with
  | nil => rfl
  | @cons L p z hz _ ih =>
    have hle : (L.eraseIdx z).length = L.length - 1 := List.length_eraseIdx_of_lt hz
    rw [List.length_cons]
    omega
theorem idx_pairs : ∀ (n : Nat) (nm : List Int), nm.length = n → n ≤ 4 → (idx n).map (fun q => pr (nm.getD q.1 0) (nm.getD q.2 0)) = pairsN nm
  | 0, [], _, _ => rfl
  | 1, [_], _, _ => rfl
  | 2, [_, _], _, _ => rfl
  | 3, [_, _, _], _, _ => rfl
  | 4, [_, _, _, _], _, _ => rfl
theorem idx_lt : ∀ (n : Nat), n ≤ 4 → ∀ q ∈ idx n, q.1 < n ∧ q.2 < n
  | 0, _ => by decide
  | 1, _ => by decide
  | 2, _ => by decide
  | 3, _ => by decide
  | 4, _ => by decide
def s1 : En → Out := setE 1 (op2E addE (keepE (kc (.int 1))) (callT 0 m__law_take (consM (kc (.int 4)) nilA)))
def s2 : En → Out := par2X 2 3 (consS (mp Sl.own (lstV nilA)) (consS (mp Sl.own (b1 rng1D (lookAt 1))) nilS))
def s3 : En → Out := forO (b1 rng1D (lookAt 1)) (putM 4) popM
def mp4 : En → R (List Dv) := b1 seqD (mp Sl.d (b1 m__law_picks (consM (valAt 1) (consM (kc (.int 2)) nilA))))
def s4 : En → Out := setE 5 (compEM mp4 [6, 7] (tupM [(putM 6), (putM 7)]) tM eM)
def s5 : En → Out := retD (tupV (consM (valAt 1) (consM (valAt 5) (consM (b1 tupleD (mp Sl.d (b1 m__law_closed_pairs (consM (valAt 1) (consM (valAt 5) nilA))))) nilA))))
theorem body_is : body__law_drawn_order = seqO s1 (seqO s2 (seqO s3 (seqO s4 s5))) := rfl
theorem s1_ok (a b : Int) (h : Inv2 a b) : ∃ (n : Nat) (a' b' : Int), 1 ≤ n ∧ n ≤ 4 ∧ Inv2 a' b' ∧ s1 [some (.st a b), none, none, none, none, none, none, none] = .nx [some (.st a' b'), sI n, none, none, none, none, none, none] := by
  obtain ⟨z, a1, b1', e1, z0, z1, h1⟩ := take_ok (m := 4) h (by decide) (by decide)
  obtain ⟨k, rfl⟩ := Int.eq_ofNat_of_zero_le z0
  refine ⟨1 + k, a1, b1', by omega, by omega, h1, ?_⟩
  simp [s1, setE, op2E, keepE, kc, callT, consM, nilA, R.bind, R.map, R.calm, R.out, e1, addE, addD, Sl.d]
theorem s2_ok : ∀ (n : Nat) (x0 : Option Sl), 1 ≤ n → n ≤ 4 → s2 [x0, sI n, none, none, none, none, none, none] = .nx [x0, sI n, some (.own (([] : List Int).map Dv.int)), some (.own ((intsN n).map Dv.int)), none, none, none, none]
  | 1, _, _, _ => by kernel_rfl
  | 2, _, _, _ => by kernel_rfl
  | 3, _, _, _ => by kernel_rfl
  | 4, _, _, _ => by kernel_rfl
theorem ints_len : ∀ n : Nat, (intsN n).length = n := fun n => by unfold intsN; rw [List.length_map, List.length_range]
theorem rng_ok : ∀ n : Nat, n ≤ 4 → rng1D (.int n) = .ok (upTo 0 n) := fun n h => by
  show (if -1000000 ≤ (n : Int) ∧ (n : Int) ≤ 1000000 then R.ok (upTo 0 (n : Int).toNat) else R.stuck) = _
  rw [if_pos (by omega)]
  rfl
def okEq (r : R (List Dv)) (l : List Dv) : Bool := R.rec (motive := fun _ => Bool) false (fun _ => false) (fun z => eqO z l) r
theorem okEq_of {r : R (List Dv)} {l : List Dv} (h : okEq r l = true) : r = .ok l := by
  cases r with
  | ok z => exact congrArg R.ok (eqO_of h)
  | _ => exact Bool.noConfusion h
theorem mp4_1 (x0 x2 x3 x4 x5 x6 x7 : Option Sl) : okEq (mp4 [x0, sI ((1 : Nat) : Int), x2, x3, x4, x5, x6, x7]) ((idx 1).map fun q => pr q.1 q.2) = true := by kernel_rfl
theorem mp4_2 (x0 x2 x3 x4 x5 x6 x7 : Option Sl) : okEq (mp4 [x0, sI ((2 : Nat) : Int), x2, x3, x4, x5, x6, x7]) ((idx 2).map fun q => pr q.1 q.2) = true := by kernel_rfl
theorem mp4_3 (x0 x2 x3 x4 x5 x6 x7 : Option Sl) : okEq (mp4 [x0, sI ((3 : Nat) : Int), x2, x3, x4, x5, x6, x7]) ((idx 3).map fun q => pr q.1 q.2) = true := by kernel_rfl
theorem mp4_4 (x0 x2 x3 x4 x5 x6 x7 : Option Sl) : okEq (mp4 [x0, sI ((4 : Nat) : Int), x2, x3, x4, x5, x6, x7]) ((idx 4).map fun q => pr q.1 q.2) = true := by kernel_rfl
theorem mp4_go (n : Nat) (x0 x2 x3 x4 x5 x6 x7 : Option Sl) (h1 : 1 ≤ n) (h4 : n ≤ 4) : okEq (mp4 [x0, sI n, x2, x3, x4, x5, x6, x7]) ((idx n).map fun q => pr q.1 q.2) = true := by
  have h : n = 1 ∨ n = 2 ∨ n = 3 ∨ n = 4 := by omega
  rcases h with h | h | h | h
  · rw [h]; exact mp4_1 x0 x2 x3 x4 x5 x6 x7
  · rw [h]; exact mp4_2 x0 x2 x3 x4 x5 x6 x7
  · rw [h]; exact mp4_3 x0 x2 x3 x4 x5 x6 x7
  · rw [h]; exact mp4_4 x0 x2 x3 x4 x5 x6 x7
theorem mp4_ok (n : Nat) (x0 x2 x3 x4 x5 x6 x7 : Option Sl) (h1 : 1 ≤ n) (h4 : n ≤ 4) : mp4 [x0, sI n, x2, x3, x4, x5, x6, x7] = .ok ((idx n).map fun q => pr q.1 q.2) := okEq_of (mp4_go n x0 x2 x3 x4 x5 x6 x7 h1 h4)
theorem drawn_ok (a b : Int) (h : Inv2 a b) (good : ∀ n ps, Case n ps → okOrd n ps = true) : ∃ (n : Nat) (ps : List Dv) (a' b' : Int), Case n ps ∧ Inv2 a' b' ∧ m__law_drawn_order a b [] = .ok (.tup [.int n, .lst ps, .tup (ordOf n ps)], a', b') := by
  obtain ⟨n, a1, b1', n1, n4, i1, e1⟩ := s1_ok a b h
  have e2 := s2_ok n (some (.st a1 b1')) n1 n4
  obtain ⟨q, a2, b2', x4, dq, i2, e3⟩ := pop_loop (upTo 0 n) a1 b1' [] (intsN n) (sI n) none none none none i1 (by rw [upTo_len, ints_len]) (by rw [ints_len]; exact (by simpa using n4))
  have hq : q.length = n := by rw [drawn_len dq, ints_len]
  obtain ⟨bs, a3, b3', l3, i3, e4⟩ := draw_list q (idx n) a2 b2' (sI n) (some (.own [])) x4 none i2 (by rw [hq]; exact idx_lt n n4)
  rw [idx_pairs n q hq n4] at e4
  have hc : Case n (pick bs (pairsN q)) := ⟨n1, n4, q, by have z := drawn_all dq; rw [ints_len] at z; exact z, bs, l3, rfl⟩
  have ho := okOrd_of (good n _ hc)
  refine ⟨n, pick bs (pairsN q), a3, b3', hc, i3, ?_⟩
  have es3 : s3 [some (.st a1 b1'), sI n, some (.own (([] : List Int).map Dv.int)), some (.own ((intsN n).map Dv.int)), none, none, none, none] = .nx [some (.st a2 b2'), sI n, some (.own (q.map Dv.int)), some (.own []), x4, none, none, none] := by
    show R.out ((R.ok (Dv.int n)).bind rng1D) (fun ds => loopD (putM 4) popM ds _) = _
    simp only [R.bind]
    rw [rng_ok n n4]
    exact e3
  have es4 : s4 [some (.st a2 b2'), sI n, some (.own (q.map Dv.int)), some (.own []), x4, none, none, none] = .nx [some (.st a3 b3'), sI n, some (.own (q.map Dv.int)), some (.own []), x4, some (.val (.lst (pick bs (pairsN q)))), none, none] := by
    show R.out (R.bind (mp4 _) fun ds => ((compE (tupM [putM 6, putM 7]) tM eM [6, 7] ds _).map fun p => (Dv.lst p.1, restE _ p.2 [6, 7])).calm) _ = _
    rw [mp4_ok n _ _ _ _ _ _ _ n1 n4]
    simp only [R.bind]
    show R.out (((compE (tupM [putM 6, putM 7]) tM eM [6, 7] ((idx n).map fun q => pr q.1 q.2) [some (.st a2 b2'), sI n, some (.own (q.map Dv.int)), some (.own []), x4, none, none, none]).map fun p => (Dv.lst p.1, restE [some (.st a2 b2'), sI n, some (.own (q.map Dv.int)), some (.own []), x4, none, none, none] p.2 [6, 7])).calm) _ = _
    rw [e4]
    rfl
  have es5 : s5 [some (.st a3 b3'), sI n, some (.own (q.map Dv.int)), some (.own []), x4, some (.val (.lst (pick bs (pairsN q)))), none, none] = .rt (.val (.tup [.int n, .lst (pick bs (pairsN q)), .tup (ordOf n (pick bs (pairsN q)))])) [some (.st a3 b3'), sI n, some (.own (q.map Dv.int)), some (.own []), x4, some (.val (.lst (pick bs (pairsN q)))), none, none] := by
    simp [s5, retD, tupV, consM, nilA, valAt, b1, mp, R.bind, R.map, R.out, ho, tupleD, Sl.d, lineP]
  have eb : body__law_drawn_order [some (.st a b), none, none, none, none, none, none, none] = .rt (.val (.tup [.int n, .lst (pick bs (pairsN q)), .tup (ordOf n (pick bs (pairsN q)))])) [some (.st a3 b3'), sI n, some (.own (q.map Dv.int)), some (.own []), x4, some (.val (.lst (pick bs (pairsN q)))), none, none] := by
    rw [body_is]
    simp only [seqO]
    rw [e1]
    dsimp only
    rw [e2]
    dsimp only
    rw [es3]
    dsimp only
    rw [es4]
    dsimp only
    rw [es5]
  show finT (body__law_drawn_order [some (.st a b), none, none, none, none, none, none, none]) = _
  rw [eb]
  rfl

/-! orders of 1: 1 -/
def od1_0 : List (List Dv) := [[]]
theorem hv1_0 (a b : Int) (x4 : Option Sl) (x0 x2 x6 x7 x8 x9 x10 x11 x12 x13 x14 x15 x16 x17 x18 x19 x20 : Option Sl) : od1_0.map (fun o => stOf (lbQ (envB 1 a b x4 o x0 x2 x6 x7 x8 x9 x10 x11 x12 x13 x14 x15 x16 x17 x18 x19 x20))) = List.replicate 1 (some (a, b)) := by kernel_rfl
def ods1 : List (List Dv) := od1_0
/-! orders of 2: 3 -/
def od2_0 : List (List Dv) := [[], [pr 0 1], [pr 1 0]]
theorem hv2_0 (a b : Int) (x4 : Option Sl) (x0 x2 x6 x7 x8 x9 x10 x11 x12 x13 x14 x15 x16 x17 x18 x19 x20 : Option Sl) : od2_0.map (fun o => stOf (lbQ (envB 2 a b x4 o x0 x2 x6 x7 x8 x9 x10 x11 x12 x13 x14 x15 x16 x17 x18 x19 x20))) = List.replicate 3 (some (a, b)) := by kernel_rfl
def ods2 : List (List Dv) := od2_0
/-! orders of 3: 19 -/
def od3_0 : List (List Dv) := [[], [pr 0 1], [pr 0 1, pr 0 2], [pr 0 1, pr 0 2, pr 1 2], [pr 0 1, pr 0 2, pr 2 1], [pr 0 1, pr 2 0, pr 2 1], [pr 0 1, pr 2 1], [pr 0 2]]
theorem hv3_0 (a b : Int) (x4 : Option Sl) (x0 x2 x6 x7 x8 x9 x10 x11 x12 x13 x14 x15 x16 x17 x18 x19 x20 : Option Sl) : od3_0.map (fun o => stOf (lbQ (envB 3 a b x4 o x0 x2 x6 x7 x8 x9 x10 x11 x12 x13 x14 x15 x16 x17 x18 x19 x20))) = List.replicate 8 (some (a, b)) := by kernel_rfl
def od3_1 : List (List Dv) := [[pr 0 2, pr 1 0, pr 1 2], [pr 0 2, pr 1 2], [pr 1 0], [pr 1 0, pr 1 2], [pr 1 0, pr 1 2, pr 2 0], [pr 1 0, pr 2 0], [pr 1 0, pr 2 0, pr 2 1], [pr 1 2]]
theorem hv3_1 (a b : Int) (x4 : Option Sl) (x0 x2 x6 x7 x8 x9 x10 x11 x12 x13 x14 x15 x16 x17 x18 x19 x20 : Option Sl) : od3_1.map (fun o => stOf (lbQ (envB 3 a b x4 o x0 x2 x6 x7 x8 x9 x10 x11 x12 x13 x14 x15 x16 x17 x18 x19 x20))) = List.replicate 8 (some (a, b)) := by kernel_rfl
def od3_2 : List (List Dv) := [[pr 2 0], [pr 2 0, pr 2 1], [pr 2 1]]
theorem hv3_2 (a b : Int) (x4 : Option Sl) (x0 x2 x6 x7 x8 x9 x10 x11 x12 x13 x14 x15 x16 x17 x18 x19 x20 : Option Sl) : od3_2.map (fun o => stOf (lbQ (envB 3 a b x4 o x0 x2 x6 x7 x8 x9 x10 x11 x12 x13 x14 x15 x16 x17 x18 x19 x20))) = List.replicate 3 (some (a, b)) := by kernel_rfl
def ods3 : List (List Dv) := od3_0 ++ (od3_1 ++ (od3_2))
/-! orders of 4: 219 -/
def od4_0 : List (List Dv) := [[], [pr 0 1], [pr 0 1, pr 0 2], [pr 0 1, pr 0 2, pr 0 3], [pr 0 1, pr 0 2, pr 0 3, pr 1 2], [pr 0 1, pr 0 2, pr 0 3, pr 1 2, pr 1 3], [pr 0 1, pr 0 2, pr 0 3, pr 1 2, pr 1 3, pr 2 3], [pr 0 1, pr 0 2, pr 0 3, pr 1 2, pr 1 3, pr 3 2]]
theorem hv4_0 (a b : Int) (x4 : Option Sl) (x0 x2 x6 x7 x8 x9 x10 x11 x12 x13 x14 x15 x16 x17 x18 x19 x20 : Option Sl) : od4_0.map (fun o => stOf (lbQ (envB 4 a b x4 o x0 x2 x6 x7 x8 x9 x10 x11 x12 x13 x14 x15 x16 x17 x18 x19 x20))) = List.replicate 8 (some (a, b)) := by kernel_rfl
def od4_1 : List (List Dv) := [[pr 0 1, pr 0 2, pr 0 3, pr 1 2, pr 3 1, pr 3 2], [pr 0 1, pr 0 2, pr 0 3, pr 1 2, pr 3 2], [pr 0 1, pr 0 2, pr 0 3, pr 1 3], [pr 0 1, pr 0 2, pr 0 3, pr 1 3, pr 2 1, pr 2 3], [pr 0 1, pr 0 2, pr 0 3, pr 1 3, pr 2 3], [pr 0 1, pr 0 2, pr 0 3, pr 2 1], [pr 0 1, pr 0 2, pr 0 3, pr 2 1, pr 2 3], [pr 0 1, pr 0 2, pr 0 3, pr 2 1, pr 2 3, pr 3 1]]
theorem hv4_1 (a b : Int) (x4 : Option Sl) (x0 x2 x6 x7 x8 x9 x10 x11 x12 x13 x14 x15 x16 x17 x18 x19 x20 : Option Sl) : od4_1.map (fun o => stOf (lbQ (envB 4 a b x4 o x0 x2 x6 x7 x8 x9 x10 x11 x12 x13 x14 x15 x16 x17 x18 x19 x20))) = List.replicate 8 (some (a, b)) := by kernel_rfl
def od4_2 : List (List Dv) := [[pr 0 1, pr 0 2, pr 0 3, pr 2 1, pr 3 1], [pr 0 1, pr 0 2, pr 0 3, pr 2 1, pr 3 1, pr 3 2], [pr 0 1, pr 0 2, pr 0 3, pr 2 3], [pr 0 1, pr 0 2, pr 0 3, pr 3 1], [pr 0 1, pr 0 2, pr 0 3, pr 3 1, pr 3 2], [pr 0 1, pr 0 2, pr 0 3, pr 3 2], [pr 0 1, pr 0 2, pr 1 2], [pr 0 1, pr 0 2, pr 1 2, pr 3 0, pr 3 1, pr 3 2]]
theorem hv4_2 (a b : Int) (x4 : Option Sl) (x0 x2 x6 x7 x8 x9 x10 x11 x12 x13 x14 x15 x16 x17 x18 x19 x20 : Option Sl) : od4_2.map (fun o => stOf (lbQ (envB 4 a b x4 o x0 x2 x6 x7 x8 x9 x10 x11 x12 x13 x14 x15 x16 x17 x18 x19 x20))) = List.replicate 8 (some (a, b)) := by kernel_rfl
def od4_3 : List (List Dv) := [[pr 0 1, pr 0 2, pr 1 2, pr 3 1, pr 3 2], [pr 0 1, pr 0 2, pr 1 2, pr 3 2], [pr 0 1, pr 0 2, pr 2 1], [pr 0 1, pr 0 2, pr 2 1, pr 3 0, pr 3 1, pr 3 2], [pr 0 1, pr 0 2, pr 2 1, pr 3 1], [pr 0 1, pr 0 2, pr 2 1, pr 3 1, pr 3 2], [pr 0 1, pr 0 2, pr 3 0, pr 3 1, pr 3 2], [pr 0 1, pr 0 2, pr 3 1]]
theorem hv4_3 (a b : Int) (x4 : Option Sl) (x0 x2 x6 x7 x8 x9 x10 x11 x12 x13 x14 x15 x16 x17 x18 x19 x20 : Option Sl) : od4_3.map (fun o => stOf (lbQ (envB 4 a b x4 o x0 x2 x6 x7 x8 x9 x10 x11 x12 x13 x14 x15 x16 x17 x18 x19 x20))) = List.replicate 8 (some (a, b)) := by kernel_rfl
def od4_4 : List (List Dv) := [[pr 0 1, pr 0 2, pr 3 1, pr 3 2], [pr 0 1, pr 0 2, pr 3 2], [pr 0 1, pr 0 3], [pr 0 1, pr 0 3, pr 1 3], [pr 0 1, pr 0 3, pr 1 3, pr 2 0, pr 2 1, pr 2 3], [pr 0 1, pr 0 3, pr 1 3, pr 2 1, pr 2 3], [pr 0 1, pr 0 3, pr 1 3, pr 2 3], [pr 0 1, pr 0 3, pr 2 0, pr 2 1, pr 2 3]]
theorem hv4_4 (a b : Int) (x4 : Option Sl) (x0 x2 x6 x7 x8 x9 x10 x11 x12 x13 x14 x15 x16 x17 x18 x19 x20 : Option Sl) : od4_4.map (fun o => stOf (lbQ (envB 4 a b x4 o x0 x2 x6 x7 x8 x9 x10 x11 x12 x13 x14 x15 x16 x17 x18 x19 x20))) = List.replicate 8 (some (a, b)) := by kernel_rfl
def od4_5 : List (List Dv) := [[pr 0 1, pr 0 3, pr 2 0, pr 2 1, pr 2 3, pr 3 1], [pr 0 1, pr 0 3, pr 2 1], [pr 0 1, pr 0 3, pr 2 1, pr 2 3], [pr 0 1, pr 0 3, pr 2 1, pr 2 3, pr 3 1], [pr 0 1, pr 0 3, pr 2 1, pr 3 1], [pr 0 1, pr 0 3, pr 2 3], [pr 0 1, pr 0 3, pr 3 1], [pr 0 1, pr 2 0, pr 2 1]]
theorem hv4_5 (a b : Int) (x4 : Option Sl) (x0 x2 x6 x7 x8 x9 x10 x11 x12 x13 x14 x15 x16 x17 x18 x19 x20 : Option Sl) : od4_5.map (fun o => stOf (lbQ (envB 4 a b x4 o x0 x2 x6 x7 x8 x9 x10 x11 x12 x13 x14 x15 x16 x17 x18 x19 x20))) = List.replicate 8 (some (a, b)) := by kernel_rfl
def od4_6 : List (List Dv) := [[pr 0 1, pr 2 0, pr 2 1, pr 2 3], [pr 0 1, pr 2 0, pr 2 1, pr 2 3, pr 3 0, pr 3 1], [pr 0 1, pr 2 0, pr 2 1, pr 2 3, pr 3 1], [pr 0 1, pr 2 0, pr 2 1, pr 3 0, pr 3 1], [pr 0 1, pr 2 0, pr 2 1, pr 3 0, pr 3 1, pr 3 2], [pr 0 1, pr 2 0, pr 2 1, pr 3 1], [pr 0 1, pr 2 1], [pr 0 1, pr 2 1, pr 2 3]]
theorem hv4_6 (a b : Int) (x4 : Option Sl) (x0 x2 x6 x7 x8 x9 x10 x11 x12 x13 x14 x15 x16 x17 x18 x19 x20 : Option Sl) : od4_6.map (fun o => stOf (lbQ (envB 4 a b x4 o x0 x2 x6 x7 x8 x9 x10 x11 x12 x13 x14 x15 x16 x17 x18 x19 x20))) = List.replicate 8 (some (a, b)) := by kernel_rfl
def od4_7 : List (List Dv) := [[pr 0 1, pr 2 1, pr 2 3, pr 3 1], [pr 0 1, pr 2 1, pr 3 0, pr 3 1], [pr 0 1, pr 2 1, pr 3 0, pr 3 1, pr 3 2], [pr 0 1, pr 2 1, pr 3 1], [pr 0 1, pr 2 1, pr 3 1, pr 3 2], [pr 0 1, pr 2 3], [pr 0 1, pr 3 0, pr 3 1], [pr 0 1, pr 3 0, pr 3 1, pr 3 2]]
theorem hv4_7 (a b : Int) (x4 : Option Sl) (x0 x2 x6 x7 x8 x9 x10 x11 x12 x13 x14 x15 x16 x17 x18 x19 x20 : Option Sl) : od4_7.map (fun o => stOf (lbQ (envB 4 a b x4 o x0 x2 x6 x7 x8 x9 x10 x11 x12 x13 x14 x15 x16 x17 x18 x19 x20))) = List.replicate 8 (some (a, b)) := by kernel_rfl
def od4_8 : List (List Dv) := [[pr 0 1, pr 3 1], [pr 0 1, pr 3 1, pr 3 2], [pr 0 1, pr 3 2], [pr 0 2], [pr 0 2, pr 0 3], [pr 0 2, pr 0 3, pr 1 0, pr 1 2, pr 1 3], [pr 0 2, pr 0 3, pr 1 0, pr 1 2, pr 1 3, pr 2 3], [pr 0 2, pr 0 3, pr 1 0, pr 1 2, pr 1 3, pr 3 2]]
theorem hv4_8 (a b : Int) (x4 : Option Sl) (x0 x2 x6 x7 x8 x9 x10 x11 x12 x13 x14 x15 x16 x17 x18 x19 x20 : Option Sl) : od4_8.map (fun o => stOf (lbQ (envB 4 a b x4 o x0 x2 x6 x7 x8 x9 x10 x11 x12 x13 x14 x15 x16 x17 x18 x19 x20))) = List.replicate 8 (some (a, b)) := by kernel_rfl
def od4_9 : List (List Dv) := [[pr 0 2, pr 0 3, pr 1 2], [pr 0 2, pr 0 3, pr 1 2, pr 1 3], [pr 0 2, pr 0 3, pr 1 2, pr 1 3, pr 2 3], [pr 0 2, pr 0 3, pr 1 2, pr 1 3, pr 3 2], [pr 0 2, pr 0 3, pr 1 2, pr 3 2], [pr 0 2, pr 0 3, pr 1 3], [pr 0 2, pr 0 3, pr 1 3, pr 2 3], [pr 0 2, pr 0 3, pr 2 3]]
theorem hv4_9 (a b : Int) (x4 : Option Sl) (x0 x2 x6 x7 x8 x9 x10 x11 x12 x13 x14 x15 x16 x17 x18 x19 x20 : Option Sl) : od4_9.map (fun o => stOf (lbQ (envB 4 a b x4 o x0 x2 x6 x7 x8 x9 x10 x11 x12 x13 x14 x15 x16 x17 x18 x19 x20))) = List.replicate 8 (some (a, b)) := by kernel_rfl
def od4_10 : List (List Dv) := [[pr 0 2, pr 0 3, pr 3 2], [pr 0 2, pr 1 0, pr 1 2], [pr 0 2, pr 1 0, pr 1 2, pr 1 3], [pr 0 2, pr 1 0, pr 1 2, pr 1 3, pr 3 0, pr 3 2], [pr 0 2, pr 1 0, pr 1 2, pr 1 3, pr 3 2], [pr 0 2, pr 1 0, pr 1 2, pr 3 0, pr 3 1, pr 3 2], [pr 0 2, pr 1 0, pr 1 2, pr 3 0, pr 3 2], [pr 0 2, pr 1 0, pr 1 2, pr 3 2]]
theorem hv4_10 (a b : Int) (x4 : Option Sl) (x0 x2 x6 x7 x8 x9 x10 x11 x12 x13 x14 x15 x16 x17 x18 x19 x20 : Option Sl) : od4_10.map (fun o => stOf (lbQ (envB 4 a b x4 o x0 x2 x6 x7 x8 x9 x10 x11 x12 x13 x14 x15 x16 x17 x18 x19 x20))) = List.replicate 8 (some (a, b)) := by kernel_rfl
def od4_11 : List (List Dv) := [[pr 0 2, pr 1 2], [pr 0 2, pr 1 2, pr 1 3], [pr 0 2, pr 1 2, pr 1 3, pr 3 2], [pr 0 2, pr 1 2, pr 3 0, pr 3 1, pr 3 2], [pr 0 2, pr 1 2, pr 3 0, pr 3 2], [pr 0 2, pr 1 2, pr 3 1, pr 3 2], [pr 0 2, pr 1 2, pr 3 2], [pr 0 2, pr 1 3]]
theorem hv4_11 (a b : Int) (x4 : Option Sl) (x0 x2 x6 x7 x8 x9 x10 x11 x12 x13 x14 x15 x16 x17 x18 x19 x20 : Option Sl) : od4_11.map (fun o => stOf (lbQ (envB 4 a b x4 o x0 x2 x6 x7 x8 x9 x10 x11 x12 x13 x14 x15 x16 x17 x18 x19 x20))) = List.replicate 8 (some (a, b)) := by kernel_rfl
def od4_12 : List (List Dv) := [[pr 0 2, pr 3 0, pr 3 1, pr 3 2], [pr 0 2, pr 3 0, pr 3 2], [pr 0 2, pr 3 1], [pr 0 2, pr 3 1, pr 3 2], [pr 0 2, pr 3 2], [pr 0 3], [pr 0 3, pr 1 0, pr 1 2, pr 1 3], [pr 0 3, pr 1 0, pr 1 2, pr 1 3, pr 2 0, pr 2 3]]
theorem hv4_12 (a b : Int) (x4 : Option Sl) (x0 x2 x6 x7 x8 x9 x10 x11 x12 x13 x14 x15 x16 x17 x18 x19 x20 : Option Sl) : od4_12.map (fun o => stOf (lbQ (envB 4 a b x4 o x0 x2 x6 x7 x8 x9 x10 x11 x12 x13 x14 x15 x16 x17 x18 x19 x20))) = List.replicate 8 (some (a, b)) := by kernel_rfl
def od4_13 : List (List Dv) := [[pr 0 3, pr 1 0, pr 1 2, pr 1 3, pr 2 3], [pr 0 3, pr 1 0, pr 1 3], [pr 0 3, pr 1 0, pr 1 3, pr 2 0, pr 2 1, pr 2 3], [pr 0 3, pr 1 0, pr 1 3, pr 2 0, pr 2 3], [pr 0 3, pr 1 0, pr 1 3, pr 2 3], [pr 0 3, pr 1 2], [pr 0 3, pr 1 2, pr 1 3], [pr 0 3, pr 1 2, pr 1 3, pr 2 3]]
theorem hv4_13 (a b : Int) (x4 : Option Sl) (x0 x2 x6 x7 x8 x9 x10 x11 x12 x13 x14 x15 x16 x17 x18 x19 x20 : Option Sl) : od4_13.map (fun o => stOf (lbQ (envB 4 a b x4 o x0 x2 x6 x7 x8 x9 x10 x11 x12 x13 x14 x15 x16 x17 x18 x19 x20))) = List.replicate 8 (some (a, b)) := by kernel_rfl
def od4_14 : List (List Dv) := [[pr 0 3, pr 1 3], [pr 0 3, pr 1 3, pr 2 0, pr 2 1, pr 2 3], [pr 0 3, pr 1 3, pr 2 0, pr 2 3], [pr 0 3, pr 1 3, pr 2 1, pr 2 3], [pr 0 3, pr 1 3, pr 2 3], [pr 0 3, pr 2 0, pr 2 1, pr 2 3], [pr 0 3, pr 2 0, pr 2 3], [pr 0 3, pr 2 1]]
theorem hv4_14 (a b : Int) (x4 : Option Sl) (x0 x2 x6 x7 x8 x9 x10 x11 x12 x13 x14 x15 x16 x17 x18 x19 x20 : Option Sl) : od4_14.map (fun o => stOf (lbQ (envB 4 a b x4 o x0 x2 x6 x7 x8 x9 x10 x11 x12 x13 x14 x15 x16 x17 x18 x19 x20))) = List.replicate 8 (some (a, b)) := by kernel_rfl
def od4_15 : List (List Dv) := [[pr 0 3, pr 2 1, pr 2 3], [pr 0 3, pr 2 3], [pr 1 0], [pr 1 0, pr 1 2], [pr 1 0, pr 1 2, pr 1 3], [pr 1 0, pr 1 2, pr 1 3, pr 2 0], [pr 1 0, pr 1 2, pr 1 3, pr 2 0, pr 2 3], [pr 1 0, pr 1 2, pr 1 3, pr 2 0, pr 2 3, pr 3 0]]
theorem hv4_15 (a b : Int) (x4 : Option Sl) (x0 x2 x6 x7 x8 x9 x10 x11 x12 x13 x14 x15 x16 x17 x18 x19 x20 : Option Sl) : od4_15.map (fun o => stOf (lbQ (envB 4 a b x4 o x0 x2 x6 x7 x8 x9 x10 x11 x12 x13 x14 x15 x16 x17 x18 x19 x20))) = List.replicate 8 (some (a, b)) := by kernel_rfl
def od4_16 : List (List Dv) := [[pr 1 0, pr 1 2, pr 1 3, pr 2 0, pr 3 0], [pr 1 0, pr 1 2, pr 1 3, pr 2 0, pr 3 0, pr 3 2], [pr 1 0, pr 1 2, pr 1 3, pr 2 3], [pr 1 0, pr 1 2, pr 1 3, pr 3 0], [pr 1 0, pr 1 2, pr 1 3, pr 3 0, pr 3 2], [pr 1 0, pr 1 2, pr 1 3, pr 3 2], [pr 1 0, pr 1 2, pr 2 0], [pr 1 0, pr 1 2, pr 2 0, pr 3 0]]
theorem hv4_16 (a b : Int) (x4 : Option Sl) (x0 x2 x6 x7 x8 x9 x10 x11 x12 x13 x14 x15 x16 x17 x18 x19 x20 : Option Sl) : od4_16.map (fun o => stOf (lbQ (envB 4 a b x4 o x0 x2 x6 x7 x8 x9 x10 x11 x12 x13 x14 x15 x16 x17 x18 x19 x20))) = List.replicate 8 (some (a, b)) := by kernel_rfl
def od4_17 : List (List Dv) := [[pr 1 0, pr 1 2, pr 2 0, pr 3 0, pr 3 1, pr 3 2], [pr 1 0, pr 1 2, pr 2 0, pr 3 0, pr 3 2], [pr 1 0, pr 1 2, pr 3 0], [pr 1 0, pr 1 2, pr 3 0, pr 3 1, pr 3 2], [pr 1 0, pr 1 2, pr 3 0, pr 3 2], [pr 1 0, pr 1 2, pr 3 2], [pr 1 0, pr 1 3], [pr 1 0, pr 1 3, pr 2 0]]
theorem hv4_17 (a b : Int) (x4 : Option Sl) (x0 x2 x6 x7 x8 x9 x10 x11 x12 x13 x14 x15 x16 x17 x18 x19 x20 : Option Sl) : od4_17.map (fun o => stOf (lbQ (envB 4 a b x4 o x0 x2 x6 x7 x8 x9 x10 x11 x12 x13 x14 x15 x16 x17 x18 x19 x20))) = List.replicate 8 (some (a, b)) := by kernel_rfl
def od4_18 : List (List Dv) := [[pr 1 0, pr 1 3, pr 2 0, pr 2 1, pr 2 3], [pr 1 0, pr 1 3, pr 2 0, pr 2 1, pr 2 3, pr 3 0], [pr 1 0, pr 1 3, pr 2 0, pr 2 3], [pr 1 0, pr 1 3, pr 2 0, pr 2 3, pr 3 0], [pr 1 0, pr 1 3, pr 2 0, pr 3 0], [pr 1 0, pr 1 3, pr 2 3], [pr 1 0, pr 1 3, pr 3 0], [pr 1 0, pr 2 0]]
theorem hv4_18 (a b : Int) (x4 : Option Sl) (x0 x2 x6 x7 x8 x9 x10 x11 x12 x13 x14 x15 x16 x17 x18 x19 x20 : Option Sl) : od4_18.map (fun o => stOf (lbQ (envB 4 a b x4 o x0 x2 x6 x7 x8 x9 x10 x11 x12 x13 x14 x15 x16 x17 x18 x19 x20))) = List.replicate 8 (some (a, b)) := by kernel_rfl
def od4_19 : List (List Dv) := [[pr 1 0, pr 2 0, pr 2 1], [pr 1 0, pr 2 0, pr 2 1, pr 2 3], [pr 1 0, pr 2 0, pr 2 1, pr 2 3, pr 3 0], [pr 1 0, pr 2 0, pr 2 1, pr 2 3, pr 3 0, pr 3 1], [pr 1 0, pr 2 0, pr 2 1, pr 3 0], [pr 1 0, pr 2 0, pr 2 1, pr 3 0, pr 3 1], [pr 1 0, pr 2 0, pr 2 1, pr 3 0, pr 3 1, pr 3 2], [pr 1 0, pr 2 0, pr 2 3]]
theorem hv4_19 (a b : Int) (x4 : Option Sl) (x0 x2 x6 x7 x8 x9 x10 x11 x12 x13 x14 x15 x16 x17 x18 x19 x20 : Option Sl) : od4_19.map (fun o => stOf (lbQ (envB 4 a b x4 o x0 x2 x6 x7 x8 x9 x10 x11 x12 x13 x14 x15 x16 x17 x18 x19 x20))) = List.replicate 8 (some (a, b)) := by kernel_rfl
def od4_20 : List (List Dv) := [[pr 1 0, pr 2 0, pr 2 3, pr 3 0], [pr 1 0, pr 2 0, pr 3 0], [pr 1 0, pr 2 0, pr 3 0, pr 3 1], [pr 1 0, pr 2 0, pr 3 0, pr 3 1, pr 3 2], [pr 1 0, pr 2 0, pr 3 0, pr 3 2], [pr 1 0, pr 2 3], [pr 1 0, pr 3 0], [pr 1 0, pr 3 0, pr 3 1]]
theorem hv4_20 (a b : Int) (x4 : Option Sl) (x0 x2 x6 x7 x8 x9 x10 x11 x12 x13 x14 x15 x16 x17 x18 x19 x20 : Option Sl) : od4_20.map (fun o => stOf (lbQ (envB 4 a b x4 o x0 x2 x6 x7 x8 x9 x10 x11 x12 x13 x14 x15 x16 x17 x18 x19 x20))) = List.replicate 8 (some (a, b)) := by kernel_rfl
def od4_21 : List (List Dv) := [[pr 1 0, pr 3 0, pr 3 1, pr 3 2], [pr 1 0, pr 3 0, pr 3 2], [pr 1 0, pr 3 2], [pr 1 2], [pr 1 2, pr 1 3], [pr 1 2, pr 1 3, pr 2 3], [pr 1 2, pr 1 3, pr 3 2], [pr 1 2, pr 3 0]]
theorem hv4_21 (a b : Int) (x4 : Option Sl) (x0 x2 x6 x7 x8 x9 x10 x11 x12 x13 x14 x15 x16 x17 x18 x19 x20 : Option Sl) : od4_21.map (fun o => stOf (lbQ (envB 4 a b x4 o x0 x2 x6 x7 x8 x9 x10 x11 x12 x13 x14 x15 x16 x17 x18 x19 x20))) = List.replicate 8 (some (a, b)) := by kernel_rfl
def od4_22 : List (List Dv) := [[pr 1 2, pr 3 0, pr 3 1, pr 3 2], [pr 1 2, pr 3 0, pr 3 2], [pr 1 2, pr 3 1, pr 3 2], [pr 1 2, pr 3 2], [pr 1 3], [pr 1 3, pr 2 0], [pr 1 3, pr 2 0, pr 2 1, pr 2 3], [pr 1 3, pr 2 0, pr 2 3]]
theorem hv4_22 (a b : Int) (x4 : Option Sl) (x0 x2 x6 x7 x8 x9 x10 x11 x12 x13 x14 x15 x16 x17 x18 x19 x20 : Option Sl) : od4_22.map (fun o => stOf (lbQ (envB 4 a b x4 o x0 x2 x6 x7 x8 x9 x10 x11 x12 x13 x14 x15 x16 x17 x18 x19 x20))) = List.replicate 8 (some (a, b)) := by kernel_rfl
def od4_23 : List (List Dv) := [[pr 1 3, pr 2 1, pr 2 3], [pr 1 3, pr 2 3], [pr 2 0], [pr 2 0, pr 2 1], [pr 2 0, pr 2 1, pr 2 3], [pr 2 0, pr 2 1, pr 2 3, pr 3 0], [pr 2 0, pr 2 1, pr 2 3, pr 3 0, pr 3 1], [pr 2 0, pr 2 1, pr 2 3, pr 3 1]]
theorem hv4_23 (a b : Int) (x4 : Option Sl) (x0 x2 x6 x7 x8 x9 x10 x11 x12 x13 x14 x15 x16 x17 x18 x19 x20 : Option Sl) : od4_23.map (fun o => stOf (lbQ (envB 4 a b x4 o x0 x2 x6 x7 x8 x9 x10 x11 x12 x13 x14 x15 x16 x17 x18 x19 x20))) = List.replicate 8 (some (a, b)) := by kernel_rfl
def od4_24 : List (List Dv) := [[pr 2 0, pr 2 1, pr 3 0], [pr 2 0, pr 2 1, pr 3 0, pr 3 1], [pr 2 0, pr 2 1, pr 3 0, pr 3 1, pr 3 2], [pr 2 0, pr 2 1, pr 3 1], [pr 2 0, pr 2 3], [pr 2 0, pr 2 3, pr 3 0], [pr 2 0, pr 3 0], [pr 2 0, pr 3 0, pr 3 1]]
theorem hv4_24 (a b : Int) (x4 : Option Sl) (x0 x2 x6 x7 x8 x9 x10 x11 x12 x13 x14 x15 x16 x17 x18 x19 x20 : Option Sl) : od4_24.map (fun o => stOf (lbQ (envB 4 a b x4 o x0 x2 x6 x7 x8 x9 x10 x11 x12 x13 x14 x15 x16 x17 x18 x19 x20))) = List.replicate 8 (some (a, b)) := by kernel_rfl
def od4_25 : List (List Dv) := [[pr 2 0, pr 3 0, pr 3 1, pr 3 2], [pr 2 0, pr 3 0, pr 3 2], [pr 2 0, pr 3 1], [pr 2 1], [pr 2 1, pr 2 3], [pr 2 1, pr 2 3, pr 3 1], [pr 2 1, pr 3 0], [pr 2 1, pr 3 0, pr 3 1]]
theorem hv4_25 (a b : Int) (x4 : Option Sl) (x0 x2 x6 x7 x8 x9 x10 x11 x12 x13 x14 x15 x16 x17 x18 x19 x20 : Option Sl) : od4_25.map (fun o => stOf (lbQ (envB 4 a b x4 o x0 x2 x6 x7 x8 x9 x10 x11 x12 x13 x14 x15 x16 x17 x18 x19 x20))) = List.replicate 8 (some (a, b)) := by kernel_rfl
def od4_26 : List (List Dv) := [[pr 2 1, pr 3 0, pr 3 1, pr 3 2], [pr 2 1, pr 3 1], [pr 2 1, pr 3 1, pr 3 2], [pr 2 3], [pr 3 0], [pr 3 0, pr 3 1], [pr 3 0, pr 3 1, pr 3 2], [pr 3 0, pr 3 2]]
theorem hv4_26 (a b : Int) (x4 : Option Sl) (x0 x2 x6 x7 x8 x9 x10 x11 x12 x13 x14 x15 x16 x17 x18 x19 x20 : Option Sl) : od4_26.map (fun o => stOf (lbQ (envB 4 a b x4 o x0 x2 x6 x7 x8 x9 x10 x11 x12 x13 x14 x15 x16 x17 x18 x19 x20))) = List.replicate 8 (some (a, b)) := by kernel_rfl
def od4_27 : List (List Dv) := [[pr 3 1], [pr 3 1, pr 3 2], [pr 3 2]]
theorem hv4_27 (a b : Int) (x4 : Option Sl) (x0 x2 x6 x7 x8 x9 x10 x11 x12 x13 x14 x15 x16 x17 x18 x19 x20 : Option Sl) : od4_27.map (fun o => stOf (lbQ (envB 4 a b x4 o x0 x2 x6 x7 x8 x9 x10 x11 x12 x13 x14 x15 x16 x17 x18 x19 x20))) = List.replicate 3 (some (a, b)) := by kernel_rfl
def ods4 : List (List Dv) := od4_0 ++ (od4_1 ++ (od4_2 ++ (od4_3 ++ (od4_4 ++ (od4_5 ++ (od4_6 ++ (od4_7 ++ (od4_8 ++ (od4_9 ++ (od4_10 ++ (od4_11 ++ (od4_12 ++ (od4_13 ++ (od4_14 ++ (od4_15 ++ (od4_16 ++ (od4_17 ++ (od4_18 ++ (od4_19 ++ (od4_20 ++ (od4_21 ++ (od4_22 ++ (od4_23 ++ (od4_24 ++ (od4_25 ++ (od4_26 ++ (od4_27)))))))))))))))))))))))))))
theorem from_ao {n : Int} {nm : List Int} {k : Nat} {L : List (List Dv)} (h : (bits k).all (fun bs => okOrd n (pick bs (pairsN nm)) && memO (ordOf n (pick bs (pairsN nm))) L) = true) {bs : List Bool} (hb : bs.length = k) : okOrd n (pick bs (pairsN nm)) = true ∧ ordOf n (pick bs (pairsN nm)) ∈ L := by
  have z := List.all_eq_true.mp h bs (hb ▸ mem_bits bs)
  rw [Bool.and_eq_true] at z
  exact ⟨z.1, memO_of z.2⟩
def odsN (n : Nat) : List (List Dv) := match n with
  | 1 => ods1
  | 2 => ods2
  | 3 => ods3
  | _ => ods4
def Good (n : Nat) (ps : List Dv) : Prop := okOrd n ps = true ∧ ordOf n ps ∈ odsN n ∧ ∀ (a b : Int) (x0 x2 x6 x7 x8 x9 x10 x11 x12 x13 x14 x15 x16 x17 x18 x19 x20 : Option Sl), stOf (lb_1 (envB n a b (some (.val (.lst ps))) (ordOf n ps) x0 x2 x6 x7 x8 x9 x10 x11 x12 x13 x14 x15 x16 x17 x18 x19 x20)) = some (a, b)
theorem pl1 : drawnAll 1 (intsN 1) = [[0]] := by decide +kernel
theorem ao1_0 : (bits 0).all (fun bs => okOrd 1 (pick bs (pairsN [0])) && memO (ordOf 1 (pick bs (pairsN [0]))) ods1) = true := by kernel_rfl
theorem av1_0 (a b : Int) (x0 x2 x6 x7 x8 x9 x10 x11 x12 x13 x14 x15 x16 x17 x18 x19 x20 : Option Sl) : (bits 0).map (fun bs => stOf (lb_1 (envB 1 a b (some (.val (.lst (pick bs (pairsN [0]))))) (ordOf 1 (pick bs (pairsN [0]))) x0 x2 x6 x7 x8 x9 x10 x11 x12 x13 x14 x15 x16 x17 x18 x19 x20))) = List.replicate 1 (some (a, b)) := by kernel_rfl
theorem gd1_0 {bs : List Bool} (h : bs.length = 0) : Good 1 (pick bs (pairsN [0])) := ⟨(from_ao ao1_0 h).1, (from_ao ao1_0 h).2, fun a b x0 x2 x6 x7 x8 x9 x10 x11 x12 x13 x14 x15 x16 x17 x18 x19 x20 => mem_rep (av1_0 a b x0 x2 x6 x7 x8 x9 x10 x11 x12 x13 x14 x15 x16 x17 x18 x19 x20) bs (h ▸ mem_bits bs)⟩
theorem gd1 {nm : List Int} (hn : nm ∈ drawnAll 1 (intsN 1)) {bs : List Bool} (h : bs.length = 0) : Good 1 (pick bs (pairsN nm)) := by
  rw [pl1] at hn
  simp only [List.mem_cons, List.not_mem_nil, or_false] at hn
  subst hn
  exact gd1_0 h
theorem pl2 : drawnAll 2 (intsN 2) = [[0, 1], [1, 0]] := by decide +kernel
theorem ao2_0 : (bits 1).all (fun bs => okOrd 2 (pick bs (pairsN [0, 1])) && memO (ordOf 2 (pick bs (pairsN [0, 1]))) ods2) = true := by kernel_rfl
theorem av2_0 (a b : Int) (x0 x2 x6 x7 x8 x9 x10 x11 x12 x13 x14 x15 x16 x17 x18 x19 x20 : Option Sl) : (bits 1).map (fun bs => stOf (lb_1 (envB 2 a b (some (.val (.lst (pick bs (pairsN [0, 1]))))) (ordOf 2 (pick bs (pairsN [0, 1]))) x0 x2 x6 x7 x8 x9 x10 x11 x12 x13 x14 x15 x16 x17 x18 x19 x20))) = List.replicate 2 (some (a, b)) := by kernel_rfl
theorem gd2_0 {bs : List Bool} (h : bs.length = 1) : Good 2 (pick bs (pairsN [0, 1])) := ⟨(from_ao ao2_0 h).1, (from_ao ao2_0 h).2, fun a b x0 x2 x6 x7 x8 x9 x10 x11 x12 x13 x14 x15 x16 x17 x18 x19 x20 => mem_rep (av2_0 a b x0 x2 x6 x7 x8 x9 x10 x11 x12 x13 x14 x15 x16 x17 x18 x19 x20) bs (h ▸ mem_bits bs)⟩
theorem ao2_1 : (bits 1).all (fun bs => okOrd 2 (pick bs (pairsN [1, 0])) && memO (ordOf 2 (pick bs (pairsN [1, 0]))) ods2) = true := by kernel_rfl
theorem av2_1 (a b : Int) (x0 x2 x6 x7 x8 x9 x10 x11 x12 x13 x14 x15 x16 x17 x18 x19 x20 : Option Sl) : (bits 1).map (fun bs => stOf (lb_1 (envB 2 a b (some (.val (.lst (pick bs (pairsN [1, 0]))))) (ordOf 2 (pick bs (pairsN [1, 0]))) x0 x2 x6 x7 x8 x9 x10 x11 x12 x13 x14 x15 x16 x17 x18 x19 x20))) = List.replicate 2 (some (a, b)) := by kernel_rfl
theorem gd2_1 {bs : List Bool} (h : bs.length = 1) : Good 2 (pick bs (pairsN [1, 0])) := ⟨(from_ao ao2_1 h).1, (from_ao ao2_1 h).2, fun a b x0 x2 x6 x7 x8 x9 x10 x11 x12 x13 x14 x15 x16 x17 x18 x19 x20 => mem_rep (av2_1 a b x0 x2 x6 x7 x8 x9 x10 x11 x12 x13 x14 x15 x16 x17 x18 x19 x20) bs (h ▸ mem_bits bs)⟩
theorem gd2 {nm : List Int} (hn : nm ∈ drawnAll 2 (intsN 2)) {bs : List Bool} (h : bs.length = 1) : Good 2 (pick bs (pairsN nm)) := by
  rw [pl2] at hn
  simp only [List.mem_cons, List.not_mem_nil, or_false] at hn
  rcases hn with hn | hn
  · subst hn; exact gd2_0 h
  · subst hn; exact gd2_1 h
theorem pl3 : drawnAll 3 (intsN 3) = [[0, 1, 2], [0, 2, 1], [1, 0, 2], [1, 2, 0], [2, 0, 1], [2, 1, 0]] := by decide +kernel
theorem ao3_0 : (bits 3).all (fun bs => okOrd 3 (pick bs (pairsN [0, 1, 2])) && memO (ordOf 3 (pick bs (pairsN [0, 1, 2]))) ods3) = true := by kernel_rfl
theorem av3_0 (a b : Int) (x0 x2 x6 x7 x8 x9 x10 x11 x12 x13 x14 x15 x16 x17 x18 x19 x20 : Option Sl) : (bits 3).map (fun bs => stOf (lb_1 (envB 3 a b (some (.val (.lst (pick bs (pairsN [0, 1, 2]))))) (ordOf 3 (pick bs (pairsN [0, 1, 2]))) x0 x2 x6 x7 x8 x9 x10 x11 x12 x13 x14 x15 x16 x17 x18 x19 x20))) = List.replicate 8 (some (a, b)) := by kernel_rfl
theorem gd3_0 {bs : List Bool} (h : bs.length = 3) : Good 3 (pick bs (pairsN [0, 1, 2])) := ⟨(from_ao ao3_0 h).1, (from_ao ao3_0 h).2, fun a b x0 x2 x6 x7 x8 x9 x10 x11 x12 x13 x14 x15 x16 x17 x18 x19 x20 => mem_rep (av3_0 a b x0 x2 x6 x7 x8 x9 x10 x11 x12 x13 x14 x15 x16 x17 x18 x19 x20) bs (h ▸ mem_bits bs)⟩
theorem ao3_1 : (bits 3).all (fun bs => okOrd 3 (pick bs (pairsN [0, 2, 1])) && memO (ordOf 3 (pick bs (pairsN [0, 2, 1]))) ods3) = true := by kernel_rfl
theorem av3_1 (a b : Int) (x0 x2 x6 x7 x8 x9 x10 x11 x12 x13 x14 x15 x16 x17 x18 x19 x20 : Option Sl) : (bits 3).map (fun bs => stOf (lb_1 (envB 3 a b (some (.val (.lst (pick bs (pairsN [0, 2, 1]))))) (ordOf 3 (pick bs (pairsN [0, 2, 1]))) x0 x2 x6 x7 x8 x9 x10 x11 x12 x13 x14 x15 x16 x17 x18 x19 x20))) = List.replicate 8 (some (a, b)) := by kernel_rfl
theorem gd3_1 {bs : List Bool} (h : bs.length = 3) : Good 3 (pick bs (pairsN [0, 2, 1])) := ⟨(from_ao ao3_1 h).1, (from_ao ao3_1 h).2, fun a b x0 x2 x6 x7 x8 x9 x10 x11 x12 x13 x14 x15 x16 x17 x18 x19 x20 => mem_rep (av3_1 a b x0 x2 x6 x7 x8 x9 x10 x11 x12 x13 x14 x15 x16 x17 x18 x19 x20) bs (h ▸ mem_bits bs)⟩
theorem ao3_2 : (bits 3).all (fun bs => okOrd 3 (pick bs (pairsN [1, 0, 2])) && memO (ordOf 3 (pick bs (pairsN [1, 0, 2]))) ods3) = true := by kernel_rfl
theorem av3_2 (a b : Int) (x0 x2 x6 x7 x8 x9 x10 x11 x12 x13 x14 x15 x16 x17 x18 x19 x20 : Option Sl) : (bits 3).map (fun bs => stOf (lb_1 (envB 3 a b (some (.val (.lst (pick bs (pairsN [1, 0, 2]))))) (ordOf 3 (pick bs (pairsN [1, 0, 2]))) x0 x2 x6 x7 x8 x9 x10 x11 x12 x13 x14 x15 x16 x17 x18 x19 x20))) = List.replicate 8 (some (a, b)) := by kernel_rfl
theorem gd3_2 {bs : List Bool} (h : bs.length = 3) : Good 3 (pick bs (pairsN [1, 0, 2])) := ⟨(from_ao ao3_2 h).1, (from_ao ao3_2 h).2, fun a b x0 x2 x6 x7 x8 x9 x10 x11 x12 x13 x14 x15 x16 x17 x18 x19 x20 => mem_rep (av3_2 a b x0 x2 x6 x7 x8 x9 x10 x11 x12 x13 x14 x15 x16 x17 x18 x19 x20) bs (h ▸ mem_bits bs)⟩
theorem ao3_3 : (bits 3).all (fun bs => okOrd 3 (pick bs (pairsN [1, 2, 0])) && memO (ordOf 3 (pick bs (pairsN [1, 2, 0]))) ods3) = true := by kernel_rfl
theorem av3_3 (a b : Int) (x0 x2 x6 x7 x8 x9 x10 x11 x12 x13 x14 x15 x16 x17 x18 x19 x20 : Option Sl) : (bits 3).map (fun bs => stOf (lb_1 (envB 3 a b (some (.val (.lst (pick bs (pairsN [1, 2, 0]))))) (ordOf 3 (pick bs (pairsN [1, 2, 0]))) x0 x2 x6 x7 x8 x9 x10 x11 x12 x13 x14 x15 x16 x17 x18 x19 x20))) = List.replicate 8 (some (a, b)) := by kernel_rfl
theorem gd3_3 {bs : List Bool} (h : bs.length = 3) : Good 3 (pick bs (pairsN [1, 2, 0])) := ⟨(from_ao ao3_3 h).1, (from_ao ao3_3 h).2, fun a b x0 x2 x6 x7 x8 x9 x10 x11 x12 x13 x14 x15 x16 x17 x18 x19 x20 => mem_rep (av3_3 a b x0 x2 x6 x7 x8 x9 x10 x11 x12 x13 x14 x15 x16 x17 x18 x19 x20) bs (h ▸ mem_bits bs)⟩
theorem ao3_4 : (bits 3).all (fun bs => okOrd 3 (pick bs (pairsN [2, 0, 1])) && memO (ordOf 3 (pick bs (pairsN [2, 0, 1]))) ods3) = true := by kernel_rfl
theorem av3_4 (a b : Int) (x0 x2 x6 x7 x8 x9 x10 x11 x12 x13 x14 x15 x16 x17 x18 x19 x20 : Option Sl) : (bits 3).map (fun bs => stOf (lb_1 (envB 3 a b (some (.val (.lst (pick bs (pairsN [2, 0, 1]))))) (ordOf 3 (pick bs (pairsN [2, 0, 1]))) x0 x2 x6 x7 x8 x9 x10 x11 x12 x13 x14 x15 x16 x17 x18 x19 x20))) = List.replicate 8 (some (a, b)) := by kernel_rfl
theorem gd3_4 {bs : List Bool} (h : bs.length = 3) : Good 3 (pick bs (pairsN [2, 0, 1])) := ⟨(from_ao ao3_4 h).1, (from_ao ao3_4 h).2, fun a b x0 x2 x6 x7 x8 x9 x10 x11 x12 x13 x14 x15 x16 x17 x18 x19 x20 => mem_rep (av3_4 a b x0 x2 x6 x7 x8 x9 x10 x11 x12 x13 x14 x15 x16 x17 x18 x19 x20) bs (h ▸ mem_bits bs)⟩
theorem ao3_5 : (bits 3).all (fun bs => okOrd 3 (pick bs (pairsN [2, 1, 0])) && memO (ordOf 3 (pick bs (pairsN [2, 1, 0]))) ods3) = true := by kernel_rfl
theorem av3_5 (a b : Int) (x0 x2 x6 x7 x8 x9 x10 x11 x12 x13 x14 x15 x16 x17 x18 x19 x20 : Option Sl) : (bits 3).map (fun bs => stOf (lb_1 (envB 3 a b (some (.val (.lst (pick bs (pairsN [2, 1, 0]))))) (ordOf 3 (pick bs (pairsN [2, 1, 0]))) x0 x2 x6 x7 x8 x9 x10 x11 x12 x13 x14 x15 x16 x17 x18 x19 x20))) = List.replicate 8 (some (a, b)) := by kernel_rfl
theorem gd3_5 {bs : List Bool} (h : bs.length = 3) : Good 3 (pick bs (pairsN [2, 1, 0])) := ⟨(from_ao ao3_5 h).1, (from_ao ao3_5 h).2, fun a b x0 x2 x6 x7 x8 x9 x10 x11 x12 x13 x14 x15 x16 x17 x18 x19 x20 => mem_rep (av3_5 a b x0 x2 x6 x7 x8 x9 x10 x11 x12 x13 x14 x15 x16 x17 x18 x19 x20) bs (h ▸ mem_bits bs)⟩
theorem gd3 {nm : List Int} (hn : nm ∈ drawnAll 3 (intsN 3)) {bs : List Bool} (h : bs.length = 3) : Good 3 (pick bs (pairsN nm)) := by
  rw [pl3] at hn
  simp only [List.mem_cons, List.not_mem_nil, or_false] at hn
  rcases hn with hn | hn | hn | hn | hn | hn
  · subst hn; exact gd3_0 h
  · subst hn; exact gd3_1 h
  · subst hn; exact gd3_2 h
  · subst hn; exact gd3_3 h
  · subst hn; exact gd3_4 h
  · subst hn; exact gd3_5 h
theorem pl4 : drawnAll 4 (intsN 4) = [[0, 1, 2, 3], [0, 1, 3, 2], [0, 2, 1, 3], [0, 2, 3, 1], [0, 3, 1, 2], [0, 3, 2, 1], [1, 0, 2, 3], [1, 0, 3, 2], [1, 2, 0, 3], [1, 2, 3, 0], [1, 3, 0, 2], [1, 3, 2, 0], [2, 0, 1, 3], [2, 0, 3, 1], [2, 1, 0, 3], [2, 1, 3, 0], [2, 3, 0, 1], [2, 3, 1, 0], [3, 0, 1, 2], [3, 0, 2, 1], [3, 1, 0, 2], [3, 1, 2, 0], [3, 2, 0, 1], [3, 2, 1, 0]] := by decide +kernel
theorem ao4_0 : (bits 6).all (fun bs => okOrd 4 (pick bs (pairsN [0, 1, 2, 3])) && memO (ordOf 4 (pick bs (pairsN [0, 1, 2, 3]))) ods4) = true := by kernel_rfl
theorem av4_0t (a b : Int) (x0 x2 x6 x7 x8 x9 x10 x11 x12 x13 x14 x15 x16 x17 x18 x19 x20 : Option Sl) : ((bits 5).map (true :: ·)).map (fun bs => stOf (lb_1 (envB 4 a b (some (.val (.lst (pick bs (pairsN [0, 1, 2, 3]))))) (ordOf 4 (pick bs (pairsN [0, 1, 2, 3]))) x0 x2 x6 x7 x8 x9 x10 x11 x12 x13 x14 x15 x16 x17 x18 x19 x20))) = List.replicate 32 (some (a, b)) := by kernel_rfl
theorem av4_0f (a b : Int) (x0 x2 x6 x7 x8 x9 x10 x11 x12 x13 x14 x15 x16 x17 x18 x19 x20 : Option Sl) : ((bits 5).map (false :: ·)).map (fun bs => stOf (lb_1 (envB 4 a b (some (.val (.lst (pick bs (pairsN [0, 1, 2, 3]))))) (ordOf 4 (pick bs (pairsN [0, 1, 2, 3]))) x0 x2 x6 x7 x8 x9 x10 x11 x12 x13 x14 x15 x16 x17 x18 x19 x20))) = List.replicate 32 (some (a, b)) := by kernel_rfl
theorem gd4_0 {bs : List Bool} (h : bs.length = 6) : Good 4 (pick bs (pairsN [0, 1, 2, 3])) := ⟨(from_ao ao4_0 h).1, (from_ao ao4_0 h).2, fun a b x0 x2 x6 x7 x8 x9 x10 x11 x12 x13 x14 x15 x16 x17 x18 x19 x20 => (List.mem_append.mp (show bs ∈ (bits 5).map (true :: ·) ++ (bits 5).map (false :: ·) from (h ▸ mem_bits bs : bs ∈ bits 6))).elim (fun q => mem_rep (av4_0t a b x0 x2 x6 x7 x8 x9 x10 x11 x12 x13 x14 x15 x16 x17 x18 x19 x20) bs q) fun q => mem_rep (av4_0f a b x0 x2 x6 x7 x8 x9 x10 x11 x12 x13 x14 x15 x16 x17 x18 x19 x20) bs q⟩
theorem ao4_1 : (bits 6).all (fun bs => okOrd 4 (pick bs (pairsN [0, 1, 3, 2])) && memO (ordOf 4 (pick bs (pairsN [0, 1, 3, 2]))) ods4) = true := by kernel_rfl
theorem av4_1t (a b : Int) (x0 x2 x6 x7 x8 x9 x10 x11 x12 x13 x14 x15 x16 x17 x18 x19 x20 : Option Sl) : ((bits 5).map (true :: ·)).map (fun bs => stOf (lb_1 (envB 4 a b (some (.val (.lst (pick bs (pairsN [0, 1, 3, 2]))))) (ordOf 4 (pick bs (pairsN [0, 1, 3, 2]))) x0 x2 x6 x7 x8 x9 x10 x11 x12 x13 x14 x15 x16 x17 x18 x19 x20))) = List.replicate 32 (some (a, b)) := by kernel_rfl
theorem av4_1f (a b : Int) (x0 x2 x6 x7 x8 x9 x10 x11 x12 x13 x14 x15 x16 x17 x18 x19 x20 : Option Sl) : ((bits 5).map (false :: ·)).map (fun bs => stOf (lb_1 (envB 4 a b (some (.val (.lst (pick bs (pairsN [0, 1, 3, 2]))))) (ordOf 4 (pick bs (pairsN [0, 1, 3, 2]))) x0 x2 x6 x7 x8 x9 x10 x11 x12 x13 x14 x15 x16 x17 x18 x19 x20))) = List.replicate 32 (some (a, b)) := by kernel_rfl
theorem gd4_1 {bs : List Bool} (h : bs.length = 6) : Good 4 (pick bs (pairsN [0, 1, 3, 2])) := ⟨(from_ao ao4_1 h).1, (from_ao ao4_1 h).2, fun a b x0 x2 x6 x7 x8 x9 x10 x11 x12 x13 x14 x15 x16 x17 x18 x19 x20 => (List.mem_append.mp (show bs ∈ (bits 5).map (true :: ·) ++ (bits 5).map (false :: ·) from (h ▸ mem_bits bs : bs ∈ bits 6))).elim (fun q => mem_rep (av4_1t a b x0 x2 x6 x7 x8 x9 x10 x11 x12 x13 x14 x15 x16 x17 x18 x19 x20) bs q) fun q => mem_rep (av4_1f a b x0 x2 x6 x7 x8 x9 x10 x11 x12 x13 x14 x15 x16 x17 x18 x19 x20) bs q⟩
theorem ao4_2 : (bits 6).all (fun bs => okOrd 4 (pick bs (pairsN [0, 2, 1, 3])) && memO (ordOf 4 (pick bs (pairsN [0, 2, 1, 3]))) ods4) = true := by kernel_rfl
theorem av4_2t (a b : Int) (x0 x2 x6 x7 x8 x9 x10 x11 x12 x13 x14 x15 x16 x17 x18 x19 x20 : Option Sl) : ((bits 5).map (true :: ·)).map (fun bs => stOf (lb_1 (envB 4 a b (some (.val (.lst (pick bs (pairsN [0, 2, 1, 3]))))) (ordOf 4 (pick bs (pairsN [0, 2, 1, 3]))) x0 x2 x6 x7 x8 x9 x10 x11 x12 x13 x14 x15 x16 x17 x18 x19 x20))) = List.replicate 32 (some (a, b)) := by kernel_rfl
theorem av4_2f (a b : Int) (x0 x2 x6 x7 x8 x9 x10 x11 x12 x13 x14 x15 x16 x17 x18 x19 x20 : Option Sl) : ((bits 5).map (false :: ·)).map (fun bs => stOf (lb_1 (envB 4 a b (some (.val (.lst (pick bs (pairsN [0, 2, 1, 3]))))) (ordOf 4 (pick bs (pairsN [0, 2, 1, 3]))) x0 x2 x6 x7 x8 x9 x10 x11 x12 x13 x14 x15 x16 x17 x18 x19 x20))) = List.replicate 32 (some (a, b)) := by kernel_rfl
theorem gd4_2 {bs : List Bool} (h : bs.length = 6) : Good 4 (pick bs (pairsN [0, 2, 1, 3])) := ⟨(from_ao ao4_2 h).1, (from_ao ao4_2 h).2, fun a b x0 x2 x6 x7 x8 x9 x10 x11 x12 x13 x14 x15 x16 x17 x18 x19 x20 => (List.mem_append.mp (show bs ∈ (bits 5).map (true :: ·) ++ (bits 5).map (false :: ·) from (h ▸ mem_bits bs : bs ∈ bits 6))).elim (fun q => mem_rep (av4_2t a b x0 x2 x6 x7 x8 x9 x10 x11 x12 x13 x14 x15 x16 x17 x18 x19 x20) bs q) fun q => mem_rep (av4_2f a b x0 x2 x6 x7 x8 x9 x10 x11 x12 x13 x14 x15 x16 x17 x18 x19 x20) bs q⟩
theorem ao4_3 : (bits 6).all (fun bs => okOrd 4 (pick bs (pairsN [0, 2, 3, 1])) && memO (ordOf 4 (pick bs (pairsN [0, 2, 3, 1]))) ods4) = true := by kernel_rfl
theorem av4_3t (a b : Int) (x0 x2 x6 x7 x8 x9 x10 x11 x12 x13 x14 x15 x16 x17 x18 x19 x20 : Option Sl) : ((bits 5).map (true :: ·)).map (fun bs => stOf (lb_1 (envB 4 a b (some (.val (.lst (pick bs (pairsN [0, 2, 3, 1]))))) (ordOf 4 (pick bs (pairsN [0, 2, 3, 1]))) x0 x2 x6 x7 x8 x9 x10 x11 x12 x13 x14 x15 x16 x17 x18 x19 x20))) = List.replicate 32 (some (a, b)) := by kernel_rfl
theorem av4_3f (a b : Int) (x0 x2 x6 x7 x8 x9 x10 x11 x12 x13 x14 x15 x16 x17 x18 x19 x20 : Option Sl) : ((bits 5).map (false :: ·)).map (fun bs => stOf (lb_1 (envB 4 a b (some (.val (.lst (pick bs (pairsN [0, 2, 3, 1]))))) (ordOf 4 (pick bs (pairsN [0, 2, 3, 1]))) x0 x2 x6 x7 x8 x9 x10 x11 x12 x13 x14 x15 x16 x17 x18 x19 x20))) = List.replicate 32 (some (a, b)) := by kernel_rfl
theorem gd4_3 {bs : List Bool} (h : bs.length = 6) : Good 4 (pick bs (pairsN [0, 2, 3, 1])) := ⟨(from_ao ao4_3 h).1, (from_ao ao4_3 h).2, fun a b x0 x2 x6 x7 x8 x9 x10 x11 x12 x13 x14 x15 x16 x17 x18 x19 x20 => (List.mem_append.mp (show bs ∈ (bits 5).map (true :: ·) ++ (bits 5).map (false :: ·) from (h ▸ mem_bits bs : bs ∈ bits 6))).elim (fun q => mem_rep (av4_3t a b x0 x2 x6 x7 x8 x9 x10 x11 x12 x13 x14 x15 x16 x17 x18 x19 x20) bs q) fun q => mem_rep (av4_3f a b x0 x2 x6 x7 x8 x9 x10 x11 x12 x13 x14 x15 x16 x17 x18 x19 x20) bs q⟩
theorem ao4_4 : (bits 6).all (fun bs => okOrd 4 (pick bs (pairsN [0, 3, 1, 2])) && memO (ordOf 4 (pick bs (pairsN [0, 3, 1, 2]))) ods4) = true := by kernel_rfl
theorem av4_4t (a b : Int) (x0 x2 x6 x7 x8 x9 x10 x11 x12 x13 x14 x15 x16 x17 x18 x19 x20 : Option Sl) : ((bits 5).map (true :: ·)).map (fun bs => stOf (lb_1 (envB 4 a b (some (.val (.lst (pick bs (pairsN [0, 3, 1, 2]))))) (ordOf 4 (pick bs (pairsN [0, 3, 1, 2]))) x0 x2 x6 x7 x8 x9 x10 x11 x12 x13 x14 x15 x16 x17 x18 x19 x20))) = List.replicate 32 (some (a, b)) := by kernel_rfl
theorem av4_4f (a b : Int) (x0 x2 x6 x7 x8 x9 x10 x11 x12 x13 x14 x15 x16 x17 x18 x19 x20 : Option Sl) : ((bits 5).map (false :: ·)).map (fun bs => stOf (lb_1 (envB 4 a b (some (.val (.lst (pick bs (pairsN [0, 3, 1, 2]))))) (ordOf 4 (pick bs (pairsN [0, 3, 1, 2]))) x0 x2 x6 x7 x8 x9 x10 x11 x12 x13 x14 x15 x16 x17 x18 x19 x20))) = List.replicate 32 (some (a, b)) := by kernel_rfl
theorem gd4_4 {bs : List Bool} (h : bs.length = 6) : Good 4 (pick bs (pairsN [0, 3, 1, 2])) := ⟨(from_ao ao4_4 h).1, (from_ao ao4_4 h).2, fun a b x0 x2 x6 x7 x8 x9 x10 x11 x12 x13 x14 x15 x16 x17 x18 x19 x20 => (List.mem_append.mp (show bs ∈ (bits 5).map (true :: ·) ++ (bits 5).map (false :: ·) from (h ▸ mem_bits bs : bs ∈ bits 6))).elim (fun q => mem_rep (av4_4t a b x0 x2 x6 x7 x8 x9 x10 x11 x12 x13 x14 x15 x16 x17 x18 x19 x20) bs q) fun q => mem_rep (av4_4f a b x0 x2 x6 x7 x8 x9 x10 x11 x12 x13 x14 x15 x16 x17 x18 x19 x20) bs q⟩
theorem ao4_5 : (bits 6).all (fun bs => okOrd 4 (pick bs (pairsN [0, 3, 2, 1])) && memO (ordOf 4 (pick bs (pairsN [0, 3, 2, 1]))) ods4) = true := by kernel_rfl
theorem av4_5t (a b : Int) (x0 x2 x6 x7 x8 x9 x10 x11 x12 x13 x14 x15 x16 x17 x18 x19 x20 : Option Sl) : ((bits 5).map (true :: ·)).map (fun bs => stOf (lb_1 (envB 4 a b (some (.val (.lst (pick bs (pairsN [0, 3, 2, 1]))))) (ordOf 4 (pick bs (pairsN [0, 3, 2, 1]))) x0 x2 x6 x7 x8 x9 x10 x11 x12 x13 x14 x15 x16 x17 x18 x19 x20))) = List.replicate 32 (some (a, b)) := by kernel_rfl
theorem av4_5f (a b : Int) (x0 x2 x6 x7 x8 x9 x10 x11 x12 x13 x14 x15 x16 x17 x18 x19 x20 : Option Sl) : ((bits 5).map (false :: ·)).map (fun bs => stOf (lb_1 (envB 4 a b (some (.val (.lst (pick bs (pairsN [0, 3, 2, 1]))))) (ordOf 4 (pick bs (pairsN [0, 3, 2, 1]))) x0 x2 x6 x7 x8 x9 x10 x11 x12 x13 x14 x15 x16 x17 x18 x19 x20))) = List.replicate 32 (some (a, b)) := by kernel_rfl
theorem gd4_5 {bs : List Bool} (h : bs.length = 6) : Good 4 (pick bs (pairsN [0, 3, 2, 1])) := ⟨(from_ao ao4_5 h).1, (from_ao ao4_5 h).2, fun a b x0 x2 x6 x7 x8 x9 x10 x11 x12 x13 x14 x15 x16 x17 x18 x19 x20 => (List.mem_append.mp (show bs ∈ (bits 5).map (true :: ·) ++ (bits 5).map (false :: ·) from (h ▸ mem_bits bs : bs ∈ bits 6))).elim (fun q => mem_rep (av4_5t a b x0 x2 x6 x7 x8 x9 x10 x11 x12 x13 x14 x15 x16 x17 x18 x19 x20) bs q) fun q => mem_rep (av4_5f a b x0 x2 x6 x7 x8 x9 x10 x11 x12 x13 x14 x15 x16 x17 x18 x19 x20) bs q⟩
theorem ao4_6 : (bits 6).all (fun bs => okOrd 4 (pick bs (pairsN [1, 0, 2, 3])) && memO (ordOf 4 (pick bs (pairsN [1, 0, 2, 3]))) ods4) = true := by kernel_rfl
theorem av4_6t (a b : Int) (x0 x2 x6 x7 x8 x9 x10 x11 x12 x13 x14 x15 x16 x17 x18 x19 x20 : Option Sl) : ((bits 5).map (true :: ·)).map (fun bs => stOf (lb_1 (envB 4 a b (some (.val (.lst (pick bs (pairsN [1, 0, 2, 3]))))) (ordOf 4 (pick bs (pairsN [1, 0, 2, 3]))) x0 x2 x6 x7 x8 x9 x10 x11 x12 x13 x14 x15 x16 x17 x18 x19 x20))) = List.replicate 32 (some (a, b)) := by kernel_rfl
theorem av4_6f (a b : Int) (x0 x2 x6 x7 x8 x9 x10 x11 x12 x13 x14 x15 x16 x17 x18 x19 x20 : Option Sl) : ((bits 5).map (false :: ·)).map (fun bs => stOf (lb_1 (envB 4 a b (some (.val (.lst (pick bs (pairsN [1, 0, 2, 3]))))) (ordOf 4 (pick bs (pairsN [1, 0, 2, 3]))) x0 x2 x6 x7 x8 x9 x10 x11 x12 x13 x14 x15 x16 x17 x18 x19 x20))) = List.replicate 32 (some (a, b)) := by kernel_rfl
theorem gd4_6 {bs : List Bool} (h : bs.length = 6) : Good 4 (pick bs (pairsN [1, 0, 2, 3])) := ⟨(from_ao ao4_6 h).1, (from_ao ao4_6 h).2, fun a b x0 x2 x6 x7 x8 x9 x10 x11 x12 x13 x14 x15 x16 x17 x18 x19 x20 => (List.mem_append.mp (show bs ∈ (bits 5).map (true :: ·) ++ (bits 5).map (false :: ·) from (h ▸ mem_bits bs : bs ∈ bits 6))).elim (fun q => mem_rep (av4_6t a b x0 x2 x6 x7 x8 x9 x10 x11 x12 x13 x14 x15 x16 x17 x18 x19 x20) bs q) fun q => mem_rep (av4_6f a b x0 x2 x6 x7 x8 x9 x10 x11 x12 x13 x14 x15 x16 x17 x18 x19 x20) bs q⟩
theorem ao4_7 : (bits 6).all (fun bs => okOrd 4 (pick bs (pairsN [1, 0, 3, 2])) && memO (ordOf 4 (pick bs (pairsN [1, 0, 3, 2]))) ods4) = true := by kernel_rfl
theorem av4_7t (a b : Int) (x0 x2 x6 x7 x8 x9 x10 x11 x12 x13 x14 x15 x16 x17 x18 x19 x20 : Option Sl) : ((bits 5).map (true :: ·)).map (fun bs => stOf (lb_1 (envB 4 a b (some (.val (.lst (pick bs (pairsN [1, 0, 3, 2]))))) (ordOf 4 (pick bs (pairsN [1, 0, 3, 2]))) x0 x2 x6 x7 x8 x9 x10 x11 x12 x13 x14 x15 x16 x17 x18 x19 x20))) = List.replicate 32 (some (a, b)) := by kernel_rfl
theorem av4_7f (a b : Int) (x0 x2 x6 x7 x8 x9 x10 x11 x12 x13 x14 x15 x16 x17 x18 x19 x20 : Option Sl) : ((bits 5).map (false :: ·)).map (fun bs => stOf (lb_1 (envB 4 a b (some (.val (.lst (pick bs (pairsN [1, 0, 3, 2]))))) (ordOf 4 (pick bs (pairsN [1, 0, 3, 2]))) x0 x2 x6 x7 x8 x9 x10 x11 x12 x13 x14 x15 x16 x17 x18 x19 x20))) = List.replicate 32 (some (a, b)) := by kernel_rfl
theorem gd4_7 {bs : List Bool} (h : bs.length = 6) : Good 4 (pick bs (pairsN [1, 0, 3, 2])) := ⟨(from_ao ao4_7 h).1, (from_ao ao4_7 h).2, fun a b x0 x2 x6 x7 x8 x9 x10 x11 x12 x13 x14 x15 x16 x17 x18 x19 x20 => (List.mem_append.mp (show bs ∈ (bits 5).map (true :: ·) ++ (bits 5).map (false :: ·) from (h ▸ mem_bits bs : bs ∈ bits 6))).elim (fun q => mem_rep (av4_7t a b x0 x2 x6 x7 x8 x9 x10 x11 x12 x13 x14 x15 x16 x17 x18 x19 x20) bs q) fun q => mem_rep (av4_7f a b x0 x2 x6 x7 x8 x9 x10 x11 x12 x13 x14 x15 x16 x17 x18 x19 x20) bs q⟩
theorem ao4_8 : (bits 6).all (fun bs => okOrd 4 (pick bs (pairsN [1, 2, 0, 3])) && memO (ordOf 4 (pick bs (pairsN [1, 2, 0, 3]))) ods4) = true := by kernel_rfl
theorem av4_8t (a b : Int) (x0 x2 x6 x7 x8 x9 x10 x11 x12 x13 x14 x15 x16 x17 x18 x19 x20 : Option Sl) : ((bits 5).map (true :: ·)).map (fun bs => stOf (lb_1 (envB 4 a b (some (.val (.lst (pick bs (pairsN [1, 2, 0, 3]))))) (ordOf 4 (pick bs (pairsN [1, 2, 0, 3]))) x0 x2 x6 x7 x8 x9 x10 x11 x12 x13 x14 x15 x16 x17 x18 x19 x20))) = List.replicate 32 (some (a, b)) := by kernel_rfl
theorem av4_8f (a b : Int) (x0 x2 x6 x7 x8 x9 x10 x11 x12 x13 x14 x15 x16 x17 x18 x19 x20 : Option Sl) : ((bits 5).map (false :: ·)).map (fun bs => stOf (lb_1 (envB 4 a b (some (.val (.lst (pick bs (pairsN [1, 2, 0, 3]))))) (ordOf 4 (pick bs (pairsN [1, 2, 0, 3]))) x0 x2 x6 x7 x8 x9 x10 x11 x12 x13 x14 x15 x16 x17 x18 x19 x20))) = List.replicate 32 (some (a, b)) := by kernel_rfl
theorem gd4_8 {bs : List Bool} (h : bs.length = 6) : Good 4 (pick bs (pairsN [1, 2, 0, 3])) := ⟨(from_ao ao4_8 h).1, (from_ao ao4_8 h).2, fun a b x0 x2 x6 x7 x8 x9 x10 x11 x12 x13 x14 x15 x16 x17 x18 x19 x20 => (List.mem_append.mp (show bs ∈ (bits 5).map (true :: ·) ++ (bits 5).map (false :: ·) from (h ▸ mem_bits bs : bs ∈ bits 6))).elim (fun q => mem_rep (av4_8t a b x0 x2 x6 x7 x8 x9 x10 x11 x12 x13 x14 x15 x16 x17 x18 x19 x20) bs q) fun q => mem_rep (av4_8f a b x0 x2 x6 x7 x8 x9 x10 x11 x12 x13 x14 x15 x16 x17 x18 x19 x20) bs q⟩
theorem ao4_9 : (bits 6).all (fun bs => okOrd 4 (pick bs (pairsN [1, 2, 3, 0])) && memO (ordOf 4 (pick bs (pairsN [1, 2, 3, 0]))) ods4) = true := by kernel_rfl
theorem av4_9t (a b : Int) (x0 x2 x6 x7 x8 x9 x10 x11 x12 x13 x14 x15 x16 x17 x18 x19 x20 : Option Sl) : ((bits 5).map (true :: ·)).map (fun bs => stOf (lb_1 (envB 4 a b (some (.val (.lst (pick bs (pairsN [1, 2, 3, 0]))))) (ordOf 4 (pick bs (pairsN [1, 2, 3, 0]))) x0 x2 x6 x7 x8 x9 x10 x11 x12 x13 x14 x15 x16 x17 x18 x19 x20))) = List.replicate 32 (some (a, b)) := by kernel_rfl
theorem av4_9f (a b : Int) (x0 x2 x6 x7 x8 x9 x10 x11 x12 x13 x14 x15 x16 x17 x18 x19 x20 : Option Sl) : ((bits 5).map (false :: ·)).map (fun bs => stOf (lb_1 (envB 4 a b (some (.val (.lst (pick bs (pairsN [1, 2, 3, 0]))))) (ordOf 4 (pick bs (pairsN [1, 2, 3, 0]))) x0 x2 x6 x7 x8 x9 x10 x11 x12 x13 x14 x15 x16 x17 x18 x19 x20))) = List.replicate 32 (some (a, b)) := by kernel_rfl
theorem gd4_9 {bs : List Bool} (h : bs.length = 6) : Good 4 (pick bs (pairsN [1, 2, 3, 0])) := ⟨(from_ao ao4_9 h).1, (from_ao ao4_9 h).2, fun a b x0 x2 x6 x7 x8 x9 x10 x11 x12 x13 x14 x15 x16 x17 x18 x19 x20 => (List.mem_append.mp (show bs ∈ (bits 5).map (true :: ·) ++ (bits 5).map (false :: ·) from (h ▸ mem_bits bs : bs ∈ bits 6))).elim (fun q => mem_rep (av4_9t a b x0 x2 x6 x7 x8 x9 x10 x11 x12 x13 x14 x15 x16 x17 x18 x19 x20) bs q) fun q => mem_rep (av4_9f a b x0 x2 x6 x7 x8 x9 x10 x11 x12 x13 x14 x15 x16 x17 x18 x19 x20) bs q⟩
theorem ao4_10 : (bits 6).all (fun bs => okOrd 4 (pick bs (pairsN [1, 3, 0, 2])) && memO (ordOf 4 (pick bs (pairsN [1, 3, 0, 2]))) ods4) = true := by kernel_rfl
theorem av4_10t (a b : Int) (x0 x2 x6 x7 x8 x9 x10 x11 x12 x13 x14 x15 x16 x17 x18 x19 x20 : Option Sl) : ((bits 5).map (true :: ·)).map (fun bs => stOf (lb_1 (envB 4 a b (some (.val (.lst (pick bs (pairsN [1, 3, 0, 2]))))) (ordOf 4 (pick bs (pairsN [1, 3, 0, 2]))) x0 x2 x6 x7 x8 x9 x10 x11 x12 x13 x14 x15 x16 x17 x18 x19 x20))) = List.replicate 32 (some (a, b)) := by kernel_rfl
theorem av4_10f (a b : Int) (x0 x2 x6 x7 x8 x9 x10 x11 x12 x13 x14 x15 x16 x17 x18 x19 x20 : Option Sl) : ((bits 5).map (false :: ·)).map (fun bs => stOf (lb_1 (envB 4 a b (some (.val (.lst (pick bs (pairsN [1, 3, 0, 2]))))) (ordOf 4 (pick bs (pairsN [1, 3, 0, 2]))) x0 x2 x6 x7 x8 x9 x10 x11 x12 x13 x14 x15 x16 x17 x18 x19 x20))) = List.replicate 32 (some (a, b)) := by kernel_rfl
theorem gd4_10 {bs : List Bool} (h : bs.length = 6) : Good 4 (pick bs (pairsN [1, 3, 0, 2])) := ⟨(from_ao ao4_10 h).1, (from_ao ao4_10 h).2, fun a b x0 x2 x6 x7 x8 x9 x10 x11 x12 x13 x14 x15 x16 x17 x18 x19 x20 => (List.mem_append.mp (show bs ∈ (bits 5).map (true :: ·) ++ (bits 5).map (false :: ·) from (h ▸ mem_bits bs : bs ∈ bits 6))).elim (fun q => mem_rep (av4_10t a b x0 x2 x6 x7 x8 x9 x10 x11 x12 x13 x14 x15 x16 x17 x18 x19 x20) bs q) fun q => mem_rep (av4_10f a b x0 x2 x6 x7 x8 x9 x10 x11 x12 x13 x14 x15 x16 x17 x18 x19 x20) bs q⟩
theorem ao4_11 : (bits 6).all (fun bs => okOrd 4 (pick bs (pairsN [1, 3, 2, 0])) && memO (ordOf 4 (pick bs (pairsN [1, 3, 2, 0]))) ods4) = true := by kernel_rfl
theorem av4_11t (a b : Int) (x0 x2 x6 x7 x8 x9 x10 x11 x12 x13 x14 x15 x16 x17 x18 x19 x20 : Option Sl) : ((bits 5).map (true :: ·)).map (fun bs => stOf (lb_1 (envB 4 a b (some (.val (.lst (pick bs (pairsN [1, 3, 2, 0]))))) (ordOf 4 (pick bs (pairsN [1, 3, 2, 0]))) x0 x2 x6 x7 x8 x9 x10 x11 x12 x13 x14 x15 x16 x17 x18 x19 x20))) = List.replicate 32 (some (a, b)) := by kernel_rfl
theorem av4_11f (a b : Int) (x0 x2 x6 x7 x8 x9 x10 x11 x12 x13 x14 x15 x16 x17 x18 x19 x20 : Option Sl) : ((bits 5).map (false :: ·)).map (fun bs => stOf (lb_1 (envB 4 a b (some (.val (.lst (pick bs (pairsN [1, 3, 2, 0]))))) (ordOf 4 (pick bs (pairsN [1, 3, 2, 0]))) x0 x2 x6 x7 x8 x9 x10 x11 x12 x13 x14 x15 x16 x17 x18 x19 x20))) = List.replicate 32 (some (a, b)) := by kernel_rfl
theorem gd4_11 {bs : List Bool} (h : bs.length = 6) : Good 4 (pick bs (pairsN [1, 3, 2, 0])) := ⟨(from_ao ao4_11 h).1, (from_ao ao4_11 h).2, fun a b x0 x2 x6 x7 x8 x9 x10 x11 x12 x13 x14 x15 x16 x17 x18 x19 x20 => (List.mem_append.mp (show bs ∈ (bits 5).map (true :: ·) ++ (bits 5).map (false :: ·) from (h ▸ mem_bits bs : bs ∈ bits 6))).elim (fun q => mem_rep (av4_11t a b x0 x2 x6 x7 x8 x9 x10 x11 x12 x13 x14 x15 x16 x17 x18 x19 x20) bs q) fun q => mem_rep (av4_11f a b x0 x2 x6 x7 x8 x9 x10 x11 x12 x13 x14 x15 x16 x17 x18 x19 x20) bs q⟩
theorem ao4_12 : (bits 6).all (fun bs => okOrd 4 (pick bs (pairsN [2, 0, 1, 3])) && memO (ordOf 4 (pick bs (pairsN [2, 0, 1, 3]))) ods4) = true := by kernel_rfl
theorem av4_12t (a b : Int) (x0 x2 x6 x7 x8 x9 x10 x11 x12 x13 x14 x15 x16 x17 x18 x19 x20 : Option Sl) : ((bits 5).map (true :: ·)).map (fun bs => stOf (lb_1 (envB 4 a b (some (.val (.lst (pick bs (pairsN [2, 0, 1, 3]))))) (ordOf 4 (pick bs (pairsN [2, 0, 1, 3]))) x0 x2 x6 x7 x8 x9 x10 x11 x12 x13 x14 x15 x16 x17 x18 x19 x20))) = List.replicate 32 (some (a, b)) := by kernel_rfl
theorem av4_12f (a b : Int) (x0 x2 x6 x7 x8 x9 x10 x11 x12 x13 x14 x15 x16 x17 x18 x19 x20 : Option Sl) : ((bits 5).map (false :: ·)).map (fun bs => stOf (lb_1 (envB 4 a b (some (.val (.lst (pick bs (pairsN [2, 0, 1, 3]))))) (ordOf 4 (pick bs (pairsN [2, 0, 1, 3]))) x0 x2 x6 x7 x8 x9 x10 x11 x12 x13 x14 x15 x16 x17 x18 x19 x20))) = List.replicate 32 (some (a, b)) := by kernel_rfl
theorem gd4_12 {bs : List Bool} (h : bs.length = 6) : Good 4 (pick bs (pairsN [2, 0, 1, 3])) := ⟨(from_ao ao4_12 h).1, (from_ao ao4_12 h).2, fun a b x0 x2 x6 x7 x8 x9 x10 x11 x12 x13 x14 x15 x16 x17 x18 x19 x20 => (List.mem_append.mp (show bs ∈ (bits 5).map (true :: ·) ++ (bits 5).map (false :: ·) from (h ▸ mem_bits bs : bs ∈ bits 6))).elim (fun q => mem_rep (av4_12t a b x0 x2 x6 x7 x8 x9 x10 x11 x12 x13 x14 x15 x16 x17 x18 x19 x20) bs q) fun q => mem_rep (av4_12f a b x0 x2 x6 x7 x8 x9 x10 x11 x12 x13 x14 x15 x16 x17 x18 x19 x20) bs q⟩
theorem ao4_13 : (bits 6).all (fun bs => okOrd 4 (pick bs (pairsN [2, 0, 3, 1])) && memO (ordOf 4 (pick bs (pairsN [2, 0, 3, 1]))) ods4) = true := by kernel_rfl
theorem av4_13t (a b : Int) (x0 x2 x6 x7 x8 x9 x10 x11 x12 x13 x14 x15 x16 x17 x18 x19 x20 : Option Sl) : ((bits 5).map (true :: ·)).map (fun bs => stOf (lb_1 (envB 4 a b (some (.val (.lst (pick bs (pairsN [2, 0, 3, 1]))))) (ordOf 4 (pick bs (pairsN [2, 0, 3, 1]))) x0 x2 x6 x7 x8 x9 x10 x11 x12 x13 x14 x15 x16 x17 x18 x19 x20))) = List.replicate 32 (some (a, b)) := by kernel_rfl
theorem av4_13f (a b : Int) (x0 x2 x6 x7 x8 x9 x10 x11 x12 x13 x14 x15 x16 x17 x18 x19 x20 : Option Sl) : ((bits 5).map (false :: ·)).map (fun bs => stOf (lb_1 (envB 4 a b (some (.val (.lst (pick bs (pairsN [2, 0, 3, 1]))))) (ordOf 4 (pick bs (pairsN [2, 0, 3, 1]))) x0 x2 x6 x7 x8 x9 x10 x11 x12 x13 x14 x15 x16 x17 x18 x19 x20))) = List.replicate 32 (some (a, b)) := by kernel_rfl
theorem gd4_13 {bs : List Bool} (h : bs.length = 6) : Good 4 (pick bs (pairsN [2, 0, 3, 1])) := ⟨(from_ao ao4_13 h).1, (from_ao ao4_13 h).2, fun a b x0 x2 x6 x7 x8 x9 x10 x11 x12 x13 x14 x15 x16 x17 x18 x19 x20 => (List.mem_append.mp (show bs ∈ (bits 5).map (true :: ·) ++ (bits 5).map (false :: ·) from (h ▸ mem_bits bs : bs ∈ bits 6))).elim (fun q => mem_rep (av4_13t a b x0 x2 x6 x7 x8 x9 x10 x11 x12 x13 x14 x15 x16 x17 x18 x19 x20) bs q) fun q => mem_rep (av4_13f a b x0 x2 x6 x7 x8 x9 x10 x11 x12 x13 x14 x15 x16 x17 x18 x19 x20) bs q⟩
theorem ao4_14 : (bits 6).all (fun bs => okOrd 4 (pick bs (pairsN [2, 1, 0, 3])) && memO (ordOf 4 (pick bs (pairsN [2, 1, 0, 3]))) ods4) = true := by kernel_rfl
theorem av4_14t (a b : Int) (x0 x2 x6 x7 x8 x9 x10 x11 x12 x13 x14 x15 x16 x17 x18 x19 x20 : Option Sl) : ((bits 5).map (true :: ·)).map (fun bs => stOf (lb_1 (envB 4 a b (some (.val (.lst (pick bs (pairsN [2, 1, 0, 3]))))) (ordOf 4 (pick bs (pairsN [2, 1, 0, 3]))) x0 x2 x6 x7 x8 x9 x10 x11 x12 x13 x14 x15 x16 x17 x18 x19 x20))) = List.replicate 32 (some (a, b)) := by kernel_rfl
theorem av4_14f (a b : Int) (x0 x2 x6 x7 x8 x9 x10 x11 x12 x13 x14 x15 x16 x17 x18 x19 x20 : Option Sl) : ((bits 5).map (false :: ·)).map (fun bs => stOf (lb_1 (envB 4 a b (some (.val (.lst (pick bs (pairsN [2, 1, 0, 3]))))) (ordOf 4 (pick bs (pairsN [2, 1, 0, 3]))) x0 x2 x6 x7 x8 x9 x10 x11 x12 x13 x14 x15 x16 x17 x18 x19 x20))) = List.replicate 32 (some (a, b)) := by kernel_rfl
theorem gd4_14 {bs : List Bool} (h : bs.length = 6) : Good 4 (pick bs (pairsN [2, 1, 0, 3])) := ⟨(from_ao ao4_14 h).1, (from_ao ao4_14 h).2, fun a b x0 x2 x6 x7 x8 x9 x10 x11 x12 x13 x14 x15 x16 x17 x18 x19 x20 => (List.mem_append.mp (show bs ∈ (bits 5).map (true :: ·) ++ (bits 5).map (false :: ·) from (h ▸ mem_bits bs : bs ∈ bits 6))).elim (fun q => mem_rep (av4_14t a b x0 x2 x6 x7 x8 x9 x10 x11 x12 x13 x14 x15 x16 x17 x18 x19 x20) bs q) fun q => mem_rep (av4_14f a b x0 x2 x6 x7 x8 x9 x10 x11 x12 x13 x14 x15 x16 x17 x18 x19 x20) bs q⟩
theorem ao4_15 : (bits 6).all (fun bs => okOrd 4 (pick bs (pairsN [2, 1, 3, 0])) && memO (ordOf 4 (pick bs (pairsN [2, 1, 3, 0]))) ods4) = true := by kernel_rfl
theorem av4_15t (a b : Int) (x0 x2 x6 x7 x8 x9 x10 x11 x12 x13 x14 x15 x16 x17 x18 x19 x20 : Option Sl) : ((bits 5).map (true :: ·)).map (fun bs => stOf (lb_1 (envB 4 a b (some (.val (.lst (pick bs (pairsN [2, 1, 3, 0]))))) (ordOf 4 (pick bs (pairsN [2, 1, 3, 0]))) x0 x2 x6 x7 x8 x9 x10 x11 x12 x13 x14 x15 x16 x17 x18 x19 x20))) = List.replicate 32 (some (a, b)) := by kernel_rfl
theorem av4_15f (a b : Int) (x0 x2 x6 x7 x8 x9 x10 x11 x12 x13 x14 x15 x16 x17 x18 x19 x20 : Option Sl) : ((bits 5).map (false :: ·)).map (fun bs => stOf (lb_1 (envB 4 a b (some (.val (.lst (pick bs (pairsN [2, 1, 3, 0]))))) (ordOf 4 (pick bs (pairsN [2, 1, 3, 0]))) x0 x2 x6 x7 x8 x9 x10 x11 x12 x13 x14 x15 x16 x17 x18 x19 x20))) = List.replicate 32 (some (a, b)) := by kernel_rfl
theorem gd4_15 {bs : List Bool} (h : bs.length = 6) : Good 4 (pick bs (pairsN [2, 1, 3, 0])) := ⟨(from_ao ao4_15 h).1, (from_ao ao4_15 h).2, fun a b x0 x2 x6 x7 x8 x9 x10 x11 x12 x13 x14 x15 x16 x17 x18 x19 x20 => (List.mem_append.mp (show bs ∈ (bits 5).map (true :: ·) ++ (bits 5).map (false :: ·) from (h ▸ mem_bits bs : bs ∈ bits 6))).elim (fun q => mem_rep (av4_15t a b x0 x2 x6 x7 x8 x9 x10 x11 x12 x13 x14 x15 x16 x17 x18 x19 x20) bs q) fun q => mem_rep (av4_15f a b x0 x2 x6 x7 x8 x9 x10 x11 x12 x13 x14 x15 x16 x17 x18 x19 x20) bs q⟩
theorem ao4_16 : (bits 6).all (fun bs => okOrd 4 (pick bs (pairsN [2, 3, 0, 1])) && memO (ordOf 4 (pick bs (pairsN [2, 3, 0, 1]))) ods4) = true := by kernel_rfl
theorem av4_16t (a b : Int) (x0 x2 x6 x7 x8 x9 x10 x11 x12 x13 x14 x15 x16 x17 x18 x19 x20 : Option Sl) : ((bits 5).map (true :: ·)).map (fun bs => stOf (lb_1 (envB 4 a b (some (.val (.lst (pick bs (pairsN [2, 3, 0, 1]))))) (ordOf 4 (pick bs (pairsN [2, 3, 0, 1]))) x0 x2 x6 x7 x8 x9 x10 x11 x12 x13 x14 x15 x16 x17 x18 x19 x20))) = List.replicate 32 (some (a, b)) := by kernel_rfl
theorem av4_16f (a b : Int) (x0 x2 x6 x7 x8 x9 x10 x11 x12 x13 x14 x15 x16 x17 x18 x19 x20 : Option Sl) : ((bits 5).map (false :: ·)).map (fun bs => stOf (lb_1 (envB 4 a b (some (.val (.lst (pick bs (pairsN [2, 3, 0, 1]))))) (ordOf 4 (pick bs (pairsN [2, 3, 0, 1]))) x0 x2 x6 x7 x8 x9 x10 x11 x12 x13 x14 x15 x16 x17 x18 x19 x20))) = List.replicate 32 (some (a, b)) := by kernel_rfl
theorem gd4_16 {bs : List Bool} (h : bs.length = 6) : Good 4 (pick bs (pairsN [2, 3, 0, 1])) := ⟨(from_ao ao4_16 h).1, (from_ao ao4_16 h).2, fun a b x0 x2 x6 x7 x8 x9 x10 x11 x12 x13 x14 x15 x16 x17 x18 x19 x20 => (List.mem_append.mp (show bs ∈ (bits 5).map (true :: ·) ++ (bits 5).map (false :: ·) from (h ▸ mem_bits bs : bs ∈ bits 6))).elim (fun q => mem_rep (av4_16t a b x0 x2 x6 x7 x8 x9 x10 x11 x12 x13 x14 x15 x16 x17 x18 x19 x20) bs q) fun q => mem_rep (av4_16f a b x0 x2 x6 x7 x8 x9 x10 x11 x12 x13 x14 x15 x16 x17 x18 x19 x20) bs q⟩
theorem ao4_17 : (bits 6).all (fun bs => okOrd 4 (pick bs (pairsN [2, 3, 1, 0])) && memO (ordOf 4 (pick bs (pairsN [2, 3, 1, 0]))) ods4) = true := by kernel_rfl
theorem av4_17t (a b : Int) (x0 x2 x6 x7 x8 x9 x10 x11 x12 x13 x14 x15 x16 x17 x18 x19 x20 : Option Sl) : ((bits 5).map (true :: ·)).map (fun bs => stOf (lb_1 (envB 4 a b (some (.val (.lst (pick bs (pairsN [2, 3, 1, 0]))))) (ordOf 4 (pick bs (pairsN [2, 3, 1, 0]))) x0 x2 x6 x7 x8 x9 x10 x11 x12 x13 x14 x15 x16 x17 x18 x19 x20))) = List.replicate 32 (some (a, b)) := by kernel_rfl
theorem av4_17f (a b : Int) (x0 x2 x6 x7 x8 x9 x10 x11 x12 x13 x14 x15 x16 x17 x18 x19 x20 : Option Sl) : ((bits 5).map (false :: ·)).map (fun bs => stOf (lb_1 (envB 4 a b (some (.val (.lst (pick bs (pairsN [2, 3, 1, 0]))))) (ordOf 4 (pick bs (pairsN [2, 3, 1, 0]))) x0 x2 x6 x7 x8 x9 x10 x11 x12 x13 x14 x15 x16 x17 x18 x19 x20))) = List.replicate 32 (some (a, b)) := by kernel_rfl
theorem gd4_17 {bs : List Bool} (h : bs.length = 6) : Good 4 (pick bs (pairsN [2, 3, 1, 0])) := ⟨(from_ao ao4_17 h).1, (from_ao ao4_17 h).2, fun a b x0 x2 x6 x7 x8 x9 x10 x11 x12 x13 x14 x15 x16 x17 x18 x19 x20 => (List.mem_append.mp (show bs ∈ (bits 5).map (true :: ·) ++ (bits 5).map (false :: ·) from (h ▸ mem_bits bs : bs ∈ bits 6))).elim (fun q => mem_rep (av4_17t a b x0 x2 x6 x7 x8 x9 x10 x11 x12 x13 x14 x15 x16 x17 x18 x19 x20) bs q) fun q => mem_rep (av4_17f a b x0 x2 x6 x7 x8 x9 x10 x11 x12 x13 x14 x15 x16 x17 x18 x19 x20) bs q⟩
theorem ao4_18 : (bits 6).all (fun bs => okOrd 4 (pick bs (pairsN [3, 0, 1, 2])) && memO (ordOf 4 (pick bs (pairsN [3, 0, 1, 2]))) ods4) = true := by kernel_rfl
theorem av4_18t (a b : Int) (x0 x2 x6 x7 x8 x9 x10 x11 x12 x13 x14 x15 x16 x17 x18 x19 x20 : Option Sl) : ((bits 5).map (true :: ·)).map (fun bs => stOf (lb_1 (envB 4 a b (some (.val (.lst (pick bs (pairsN [3, 0, 1, 2]))))) (ordOf 4 (pick bs (pairsN [3, 0, 1, 2]))) x0 x2 x6 x7 x8 x9 x10 x11 x12 x13 x14 x15 x16 x17 x18 x19 x20))) = List.replicate 32 (some (a, b)) := by kernel_rfl
theorem av4_18f (a b : Int) (x0 x2 x6 x7 x8 x9 x10 x11 x12 x13 x14 x15 x16 x17 x18 x19 x20 : Option Sl) : ((bits 5).map (false :: ·)).map (fun bs => stOf (lb_1 (envB 4 a b (some (.val (.lst (pick bs (pairsN [3, 0, 1, 2]))))) (ordOf 4 (pick bs (pairsN [3, 0, 1, 2]))) x0 x2 x6 x7 x8 x9 x10 x11 x12 x13 x14 x15 x16 x17 x18 x19 x20))) = List.replicate 32 (some (a, b)) := by kernel_rfl
theorem gd4_18 {bs : List Bool} (h : bs.length = 6) : Good 4 (pick bs (pairsN [3, 0, 1, 2])) := ⟨(from_ao ao4_18 h).1, (from_ao ao4_18 h).2, fun a b x0 x2 x6 x7 x8 x9 x10 x11 x12 x13 x14 x15 x16 x17 x18 x19 x20 => (List.mem_append.mp (show bs ∈ (bits 5).map (true :: ·) ++ (bits 5).map (false :: ·) from (h ▸ mem_bits bs : bs ∈ bits 6))).elim (fun q => mem_rep (av4_18t a b x0 x2 x6 x7 x8 x9 x10 x11 x12 x13 x14 x15 x16 x17 x18 x19 x20) bs q) fun q => mem_rep (av4_18f a b x0 x2 x6 x7 x8 x9 x10 x11 x12 x13 x14 x15 x16 x17 x18 x19 x20) bs q⟩
theorem ao4_19 : (bits 6).all (fun bs => okOrd 4 (pick bs (pairsN [3, 0, 2, 1])) && memO (ordOf 4 (pick bs (pairsN [3, 0, 2, 1]))) ods4) = true := by kernel_rfl
theorem av4_19t (a b : Int) (x0 x2 x6 x7 x8 x9 x10 x11 x12 x13 x14 x15 x16 x17 x18 x19 x20 : Option Sl) : ((bits 5).map (true :: ·)).map (fun bs => stOf (lb_1 (envB 4 a b (some (.val (.lst (pick bs (pairsN [3, 0, 2, 1]))))) (ordOf 4 (pick bs (pairsN [3, 0, 2, 1]))) x0 x2 x6 x7 x8 x9 x10 x11 x12 x13 x14 x15 x16 x17 x18 x19 x20))) = List.replicate 32 (some (a, b)) := by kernel_rfl
theorem av4_19f (a b : Int) (x0 x2 x6 x7 x8 x9 x10 x11 x12 x13 x14 x15 x16 x17 x18 x19 x20 : Option Sl) : ((bits 5).map (false :: ·)).map (fun bs => stOf (lb_1 (envB 4 a b (some (.val (.lst (pick bs (pairsN [3, 0, 2, 1]))))) (ordOf 4 (pick bs (pairsN [3, 0, 2, 1]))) x0 x2 x6 x7 x8 x9 x10 x11 x12 x13 x14 x15 x16 x17 x18 x19 x20))) = List.replicate 32 (some (a, b)) := by kernel_rfl
theorem gd4_19 {bs : List Bool} (h : bs.length = 6) : Good 4 (pick bs (pairsN [3, 0, 2, 1])) := ⟨(from_ao ao4_19 h).1, (from_ao ao4_19 h).2, fun a b x0 x2 x6 x7 x8 x9 x10 x11 x12 x13 x14 x15 x16 x17 x18 x19 x20 => (List.mem_append.mp (show bs ∈ (bits 5).map (true :: ·) ++ (bits 5).map (false :: ·) from (h ▸ mem_bits bs : bs ∈ bits 6))).elim (fun q => mem_rep (av4_19t a b x0 x2 x6 x7 x8 x9 x10 x11 x12 x13 x14 x15 x16 x17 x18 x19 x20) bs q) fun q => mem_rep (av4_19f a b x0 x2 x6 x7 x8 x9 x10 x11 x12 x13 x14 x15 x16 x17 x18 x19 x20) bs q⟩
theorem ao4_20 : (bits 6).all (fun bs => okOrd 4 (pick bs (pairsN [3, 1, 0, 2])) && memO (ordOf 4 (pick bs (pairsN [3, 1, 0, 2]))) ods4) = true := by kernel_rfl
theorem av4_20t (a b : Int) (x0 x2 x6 x7 x8 x9 x10 x11 x12 x13 x14 x15 x16 x17 x18 x19 x20 : Option Sl) : ((bits 5).map (true :: ·)).map (fun bs => stOf (lb_1 (envB 4 a b (some (.val (.lst (pick bs (pairsN [3, 1, 0, 2]))))) (ordOf 4 (pick bs (pairsN [3, 1, 0, 2]))) x0 x2 x6 x7 x8 x9 x10 x11 x12 x13 x14 x15 x16 x17 x18 x19 x20))) = List.replicate 32 (some (a, b)) := by kernel_rfl
theorem av4_20f (a b : Int) (x0 x2 x6 x7 x8 x9 x10 x11 x12 x13 x14 x15 x16 x17 x18 x19 x20 : Option Sl) : ((bits 5).map (false :: ·)).map (fun bs => stOf (lb_1 (envB 4 a b (some (.val (.lst (pick bs (pairsN [3, 1, 0, 2]))))) (ordOf 4 (pick bs (pairsN [3, 1, 0, 2]))) x0 x2 x6 x7 x8 x9 x10 x11 x12 x13 x14 x15 x16 x17 x18 x19 x20))) = List.replicate 32 (some (a, b)) := by kernel_rfl
theorem gd4_20 {bs : List Bool} (h : bs.length = 6) : Good 4 (pick bs (pairsN [3, 1, 0, 2])) := ⟨(from_ao ao4_20 h).1, (from_ao ao4_20 h).2, fun a b x0 x2 x6 x7 x8 x9 x10 x11 x12 x13 x14 x15 x16 x17 x18 x19 x20 => (List.mem_append.mp (show bs ∈ (bits 5).map (true :: ·) ++ (bits 5).map (false :: ·) from (h ▸ mem_bits bs : bs ∈ bits 6))).elim (fun q => mem_rep (av4_20t a b x0 x2 x6 x7 x8 x9 x10 x11 x12 x13 x14 x15 x16 x17 x18 x19 x20) bs q) fun q => mem_rep (av4_20f a b x0 x2 x6 x7 x8 x9 x10 x11 x12 x13 x14 x15 x16 x17 x18 x19 x20) bs q⟩
theorem ao4_21 : (bits 6).all (fun bs => okOrd 4 (pick bs (pairsN [3, 1, 2, 0])) && memO (ordOf 4 (pick bs (pairsN [3, 1, 2, 0]))) ods4) = true := by kernel_rfl
theorem av4_21t (a b : Int) (x0 x2 x6 x7 x8 x9 x10 x11 x12 x13 x14 x15 x16 x17 x18 x19 x20 : Option Sl) : ((bits 5).map (true :: ·)).map (fun bs => stOf (lb_1 (envB 4 a b (some (.val (.lst (pick bs (pairsN [3, 1, 2, 0]))))) (ordOf 4 (pick bs (pairsN [3, 1, 2, 0]))) x0 x2 x6 x7 x8 x9 x10 x11 x12 x13 x14 x15 x16 x17 x18 x19 x20))) = List.replicate 32 (some (a, b)) := by kernel_rfl
theorem av4_21f (a b : Int) (x0 x2 x6 x7 x8 x9 x10 x11 x12 x13 x14 x15 x16 x17 x18 x19 x20 : Option Sl) : ((bits 5).map (false :: ·)).map (fun bs => stOf (lb_1 (envB 4 a b (some (.val (.lst (pick bs (pairsN [3, 1, 2, 0]))))) (ordOf 4 (pick bs (pairsN [3, 1, 2, 0]))) x0 x2 x6 x7 x8 x9 x10 x11 x12 x13 x14 x15 x16 x17 x18 x19 x20))) = List.replicate 32 (some (a, b)) := by kernel_rfl
theorem gd4_21 {bs : List Bool} (h : bs.length = 6) : Good 4 (pick bs (pairsN [3, 1, 2, 0])) := ⟨(from_ao ao4_21 h).1, (from_ao ao4_21 h).2, fun a b x0 x2 x6 x7 x8 x9 x10 x11 x12 x13 x14 x15 x16 x17 x18 x19 x20 => (List.mem_append.mp (show bs ∈ (bits 5).map (true :: ·) ++ (bits 5).map (false :: ·) from (h ▸ mem_bits bs : bs ∈ bits 6))).elim (fun q => mem_rep (av4_21t a b x0 x2 x6 x7 x8 x9 x10 x11 x12 x13 x14 x15 x16 x17 x18 x19 x20) bs q) fun q => mem_rep (av4_21f a b x0 x2 x6 x7 x8 x9 x10 x11 x12 x13 x14 x15 x16 x17 x18 x19 x20) bs q⟩
theorem ao4_22 : (bits 6).all (fun bs => okOrd 4 (pick bs (pairsN [3, 2, 0, 1])) && memO (ordOf 4 (pick bs (pairsN [3, 2, 0, 1]))) ods4) = true := by kernel_rfl
theorem av4_22t (a b : Int) (x0 x2 x6 x7 x8 x9 x10 x11 x12 x13 x14 x15 x16 x17 x18 x19 x20 : Option Sl) : ((bits 5).map (true :: ·)).map (fun bs => stOf (lb_1 (envB 4 a b (some (.val (.lst (pick bs (pairsN [3, 2, 0, 1]))))) (ordOf 4 (pick bs (pairsN [3, 2, 0, 1]))) x0 x2 x6 x7 x8 x9 x10 x11 x12 x13 x14 x15 x16 x17 x18 x19 x20))) = List.replicate 32 (some (a, b)) := by kernel_rfl
theorem av4_22f (a b : Int) (x0 x2 x6 x7 x8 x9 x10 x11 x12 x13 x14 x15 x16 x17 x18 x19 x20 : Option Sl) : ((bits 5).map (false :: ·)).map (fun bs => stOf (lb_1 (envB 4 a b (some (.val (.lst (pick bs (pairsN [3, 2, 0, 1]))))) (ordOf 4 (pick bs (pairsN [3, 2, 0, 1]))) x0 x2 x6 x7 x8 x9 x10 x11 x12 x13 x14 x15 x16 x17 x18 x19 x20))) = List.replicate 32 (some (a, b)) := by kernel_rfl
theorem gd4_22 {bs : List Bool} (h : bs.length = 6) : Good 4 (pick bs (pairsN [3, 2, 0, 1])) := ⟨(from_ao ao4_22 h).1, (from_ao ao4_22 h).2, fun a b x0 x2 x6 x7 x8 x9 x10 x11 x12 x13 x14 x15 x16 x17 x18 x19 x20 => (List.mem_append.mp (show bs ∈ (bits 5).map (true :: ·) ++ (bits 5).map (false :: ·) from (h ▸ mem_bits bs : bs ∈ bits 6))).elim (fun q => mem_rep (av4_22t a b x0 x2 x6 x7 x8 x9 x10 x11 x12 x13 x14 x15 x16 x17 x18 x19 x20) bs q) fun q => mem_rep (av4_22f a b x0 x2 x6 x7 x8 x9 x10 x11 x12 x13 x14 x15 x16 x17 x18 x19 x20) bs q⟩
theorem ao4_23 : (bits 6).all (fun bs => okOrd 4 (pick bs (pairsN [3, 2, 1, 0])) && memO (ordOf 4 (pick bs (pairsN [3, 2, 1, 0]))) ods4) = true := by kernel_rfl
theorem av4_23t (a b : Int) (x0 x2 x6 x7 x8 x9 x10 x11 x12 x13 x14 x15 x16 x17 x18 x19 x20 : Option Sl) : ((bits 5).map (true :: ·)).map (fun bs => stOf (lb_1 (envB 4 a b (some (.val (.lst (pick bs (pairsN [3, 2, 1, 0]))))) (ordOf 4 (pick bs (pairsN [3, 2, 1, 0]))) x0 x2 x6 x7 x8 x9 x10 x11 x12 x13 x14 x15 x16 x17 x18 x19 x20))) = List.replicate 32 (some (a, b)) := by kernel_rfl
theorem av4_23f (a b : Int) (x0 x2 x6 x7 x8 x9 x10 x11 x12 x13 x14 x15 x16 x17 x18 x19 x20 : Option Sl) : ((bits 5).map (false :: ·)).map (fun bs => stOf (lb_1 (envB 4 a b (some (.val (.lst (pick bs (pairsN [3, 2, 1, 0]))))) (ordOf 4 (pick bs (pairsN [3, 2, 1, 0]))) x0 x2 x6 x7 x8 x9 x10 x11 x12 x13 x14 x15 x16 x17 x18 x19 x20))) = List.replicate 32 (some (a, b)) := by kernel_rfl
theorem gd4_23 {bs : List Bool} (h : bs.length = 6) : Good 4 (pick bs (pairsN [3, 2, 1, 0])) := ⟨(from_ao ao4_23 h).1, (from_ao ao4_23 h).2, fun a b x0 x2 x6 x7 x8 x9 x10 x11 x12 x13 x14 x15 x16 x17 x18 x19 x20 => (List.mem_append.mp (show bs ∈ (bits 5).map (true :: ·) ++ (bits 5).map (false :: ·) from (h ▸ mem_bits bs : bs ∈ bits 6))).elim (fun q => mem_rep (av4_23t a b x0 x2 x6 x7 x8 x9 x10 x11 x12 x13 x14 x15 x16 x17 x18 x19 x20) bs q) fun q => mem_rep (av4_23f a b x0 x2 x6 x7 x8 x9 x10 x11 x12 x13 x14 x15 x16 x17 x18 x19 x20) bs q⟩
theorem gd4 {nm : List Int} (hn : nm ∈ drawnAll 4 (intsN 4)) {bs : List Bool} (h : bs.length = 6) : Good 4 (pick bs (pairsN nm)) := by
  rw [pl4] at hn
  simp only [List.mem_cons, List.not_mem_nil, or_false] at hn
  rcases hn with hn | hn | hn | hn | hn | hn | hn | hn | hn | hn | hn | hn | hn | hn | hn | hn | hn | hn | hn | hn | hn | hn | hn | hn
  · subst hn; exact gd4_0 h
  · subst hn; exact gd4_1 h
  · subst hn; exact gd4_2 h
  · subst hn; exact gd4_3 h
  · subst hn; exact gd4_4 h
  · subst hn; exact gd4_5 h
  · subst hn; exact gd4_6 h
  · subst hn; exact gd4_7 h
  · subst hn; exact gd4_8 h
  · subst hn; exact gd4_9 h
  · subst hn; exact gd4_10 h
  · subst hn; exact gd4_11 h
  · subst hn; exact gd4_12 h
  · subst hn; exact gd4_13 h
  · subst hn; exact gd4_14 h
  · subst hn; exact gd4_15 h
  · subst hn; exact gd4_16 h
  · subst hn; exact gd4_17 h
  · subst hn; exact gd4_18 h
  · subst hn; exact gd4_19 h
  · subst hn; exact gd4_20 h
  · subst hn; exact gd4_21 h
  · subst hn; exact gd4_22 h
  · subst hn; exact gd4_23 h
theorem all_good (n : Nat) (ps : List Dv) (h : Case n ps) : Good n ps := by
  obtain ⟨h1, h4, nm, hn, bs, hb, rfl⟩ := h
  have h : n = 1 ∨ n = 2 ∨ n = 3 ∨ n = 4 := by omega
  rcases h with h | h | h | h
  · subst h; exact gd1 hn hb
  · subst h; exact gd2 hn hb
  · subst h; exact gd3 hn hb
  · subst h; exact gd4 hn hb
theorem hv1 {o : List Dv} (h : o ∈ ods1) (a b : Int) (x4 : Option Sl) (x0 x2 x6 x7 x8 x9 x10 x11 x12 x13 x14 x15 x16 x17 x18 x19 x20 : Option Sl) : stOf (lbQ (envB 1 a b x4 o x0 x2 x6 x7 x8 x9 x10 x11 x12 x13 x14 x15 x16 x17 x18 x19 x20)) = some (a, b) := by
  unfold ods1 at h
  exact mem_rep (hv1_0 a b x4 x0 x2 x6 x7 x8 x9 x10 x11 x12 x13 x14 x15 x16 x17 x18 x19 x20) o h
theorem hv2 {o : List Dv} (h : o ∈ ods2) (a b : Int) (x4 : Option Sl) (x0 x2 x6 x7 x8 x9 x10 x11 x12 x13 x14 x15 x16 x17 x18 x19 x20 : Option Sl) : stOf (lbQ (envB 2 a b x4 o x0 x2 x6 x7 x8 x9 x10 x11 x12 x13 x14 x15 x16 x17 x18 x19 x20)) = some (a, b) := by
  unfold ods2 at h
  exact mem_rep (hv2_0 a b x4 x0 x2 x6 x7 x8 x9 x10 x11 x12 x13 x14 x15 x16 x17 x18 x19 x20) o h
theorem hv3 {o : List Dv} (h : o ∈ ods3) (a b : Int) (x4 : Option Sl) (x0 x2 x6 x7 x8 x9 x10 x11 x12 x13 x14 x15 x16 x17 x18 x19 x20 : Option Sl) : stOf (lbQ (envB 3 a b x4 o x0 x2 x6 x7 x8 x9 x10 x11 x12 x13 x14 x15 x16 x17 x18 x19 x20)) = some (a, b) := by
  unfold ods3 at h
  rcases List.mem_append.mp h with h | h
  · exact mem_rep (hv3_0 a b x4 x0 x2 x6 x7 x8 x9 x10 x11 x12 x13 x14 x15 x16 x17 x18 x19 x20) o h
  rcases List.mem_append.mp h with h | h
  · exact mem_rep (hv3_1 a b x4 x0 x2 x6 x7 x8 x9 x10 x11 x12 x13 x14 x15 x16 x17 x18 x19 x20) o h
  exact mem_rep (hv3_2 a b x4 x0 x2 x6 x7 x8 x9 x10 x11 x12 x13 x14 x15 x16 x17 x18 x19 x20) o h
theorem hv4 {o : List Dv} (h : o ∈ ods4) (a b : Int) (x4 : Option Sl) (x0 x2 x6 x7 x8 x9 x10 x11 x12 x13 x14 x15 x16 x17 x18 x19 x20 : Option Sl) : stOf (lbQ (envB 4 a b x4 o x0 x2 x6 x7 x8 x9 x10 x11 x12 x13 x14 x15 x16 x17 x18 x19 x20)) = some (a, b) := by
  unfold ods4 at h
  rcases List.mem_append.mp h with h | h
  · exact mem_rep (hv4_0 a b x4 x0 x2 x6 x7 x8 x9 x10 x11 x12 x13 x14 x15 x16 x17 x18 x19 x20) o h
  rcases List.mem_append.mp h with h | h
  · exact mem_rep (hv4_1 a b x4 x0 x2 x6 x7 x8 x9 x10 x11 x12 x13 x14 x15 x16 x17 x18 x19 x20) o h
  rcases List.mem_append.mp h with h | h
  · exact mem_rep (hv4_2 a b x4 x0 x2 x6 x7 x8 x9 x10 x11 x12 x13 x14 x15 x16 x17 x18 x19 x20) o h
  rcases List.mem_append.mp h with h | h
  · exact mem_rep (hv4_3 a b x4 x0 x2 x6 x7 x8 x9 x10 x11 x12 x13 x14 x15 x16 x17 x18 x19 x20) o h
  rcases List.mem_append.mp h with h | h
  · exact mem_rep (hv4_4 a b x4 x0 x2 x6 x7 x8 x9 x10 x11 x12 x13 x14 x15 x16 x17 x18 x19 x20) o h
  rcases List.mem_append.mp h with h | h
  · exact mem_rep (hv4_5 a b x4 x0 x2 x6 x7 x8 x9 x10 x11 x12 x13 x14 x15 x16 x17 x18 x19 x20) o h
  rcases List.mem_append.mp h with h | h
  · exact mem_rep (hv4_6 a b x4 x0 x2 x6 x7 x8 x9 x10 x11 x12 x13 x14 x15 x16 x17 x18 x19 x20) o h
  rcases List.mem_append.mp h with h | h
  · exact mem_rep (hv4_7 a b x4 x0 x2 x6 x7 x8 x9 x10 x11 x12 x13 x14 x15 x16 x17 x18 x19 x20) o h
  rcases List.mem_append.mp h with h | h
  · exact mem_rep (hv4_8 a b x4 x0 x2 x6 x7 x8 x9 x10 x11 x12 x13 x14 x15 x16 x17 x18 x19 x20) o h
  rcases List.mem_append.mp h with h | h
  · exact mem_rep (hv4_9 a b x4 x0 x2 x6 x7 x8 x9 x10 x11 x12 x13 x14 x15 x16 x17 x18 x19 x20) o h
  rcases List.mem_append.mp h with h | h
  · exact mem_rep (hv4_10 a b x4 x0 x2 x6 x7 x8 x9 x10 x11 x12 x13 x14 x15 x16 x17 x18 x19 x20) o h
  rcases List.mem_append.mp h with h | h
  · exact mem_rep (hv4_11 a b x4 x0 x2 x6 x7 x8 x9 x10 x11 x12 x13 x14 x15 x16 x17 x18 x19 x20) o h
  rcases List.mem_append.mp h with h | h
  · exact mem_rep (hv4_12 a b x4 x0 x2 x6 x7 x8 x9 x10 x11 x12 x13 x14 x15 x16 x17 x18 x19 x20) o h
  rcases List.mem_append.mp h with h | h
  · exact mem_rep (hv4_13 a b x4 x0 x2 x6 x7 x8 x9 x10 x11 x12 x13 x14 x15 x16 x17 x18 x19 x20) o h
  rcases List.mem_append.mp h with h | h
  · exact mem_rep (hv4_14 a b x4 x0 x2 x6 x7 x8 x9 x10 x11 x12 x13 x14 x15 x16 x17 x18 x19 x20) o h
  rcases List.mem_append.mp h with h | h
  · exact mem_rep (hv4_15 a b x4 x0 x2 x6 x7 x8 x9 x10 x11 x12 x13 x14 x15 x16 x17 x18 x19 x20) o h
  rcases List.mem_append.mp h with h | h
  · exact mem_rep (hv4_16 a b x4 x0 x2 x6 x7 x8 x9 x10 x11 x12 x13 x14 x15 x16 x17 x18 x19 x20) o h
  rcases List.mem_append.mp h with h | h
  · exact mem_rep (hv4_17 a b x4 x0 x2 x6 x7 x8 x9 x10 x11 x12 x13 x14 x15 x16 x17 x18 x19 x20) o h
  rcases List.mem_append.mp h with h | h
  · exact mem_rep (hv4_18 a b x4 x0 x2 x6 x7 x8 x9 x10 x11 x12 x13 x14 x15 x16 x17 x18 x19 x20) o h
  rcases List.mem_append.mp h with h | h
  · exact mem_rep (hv4_19 a b x4 x0 x2 x6 x7 x8 x9 x10 x11 x12 x13 x14 x15 x16 x17 x18 x19 x20) o h
  rcases List.mem_append.mp h with h | h
  · exact mem_rep (hv4_20 a b x4 x0 x2 x6 x7 x8 x9 x10 x11 x12 x13 x14 x15 x16 x17 x18 x19 x20) o h
  rcases List.mem_append.mp h with h | h
  · exact mem_rep (hv4_21 a b x4 x0 x2 x6 x7 x8 x9 x10 x11 x12 x13 x14 x15 x16 x17 x18 x19 x20) o h
  rcases List.mem_append.mp h with h | h
  · exact mem_rep (hv4_22 a b x4 x0 x2 x6 x7 x8 x9 x10 x11 x12 x13 x14 x15 x16 x17 x18 x19 x20) o h
  rcases List.mem_append.mp h with h | h
  · exact mem_rep (hv4_23 a b x4 x0 x2 x6 x7 x8 x9 x10 x11 x12 x13 x14 x15 x16 x17 x18 x19 x20) o h
  rcases List.mem_append.mp h with h | h
  · exact mem_rep (hv4_24 a b x4 x0 x2 x6 x7 x8 x9 x10 x11 x12 x13 x14 x15 x16 x17 x18 x19 x20) o h
  rcases List.mem_append.mp h with h | h
  · exact mem_rep (hv4_25 a b x4 x0 x2 x6 x7 x8 x9 x10 x11 x12 x13 x14 x15 x16 x17 x18 x19 x20) o h
  rcases List.mem_append.mp h with h | h
  · exact mem_rep (hv4_26 a b x4 x0 x2 x6 x7 x8 x9 x10 x11 x12 x13 x14 x15 x16 x17 x18 x19 x20) o h
  exact mem_rep (hv4_27 a b x4 x0 x2 x6 x7 x8 x9 x10 x11 x12 x13 x14 x15 x16 x17 x18 x19 x20) o h
theorem hvN (n : Nat) (h1 : 1 ≤ n) (h4 : n ≤ 4) {o : List Dv} (h : o ∈ odsN n) (a b : Int) (x4 : Option Sl) (x0 x2 x6 x7 x8 x9 x10 x11 x12 x13 x14 x15 x16 x17 x18 x19 x20 : Option Sl) : stOf (lbQ (envB n a b x4 o x0 x2 x6 x7 x8 x9 x10 x11 x12 x13 x14 x15 x16 x17 x18 x19 x20)) = some (a, b) := by
  have q : n = 1 ∨ n = 2 ∨ n = 3 ∨ n = 4 := by omega
  rcases q with q | q | q | q
  · subst q; exact hv1 h a b x4 x0 x2 x6 x7 x8 x9 x10 x11 x12 x13 x14 x15 x16 x17 x18 x19 x20
  · subst q; exact hv2 h a b x4 x0 x2 x6 x7 x8 x9 x10 x11 x12 x13 x14 x15 x16 x17 x18 x19 x20
  · subst q; exact hv3 h a b x4 x0 x2 x6 x7 x8 x9 x10 x11 x12 x13 x14 x15 x16 x17 x18 x19 x20
  · subst q; exact hv4 h a b x4 x0 x2 x6 x7 x8 x9 x10 x11 x12 x13 x14 x15 x16 x17 x18 x19 x20
theorem lb_1_keep {e : En} {p : Int × Int} (h : stOf (lb_1 e) = some p) : lb_1 e = .nx e := by
  revert h
  unfold lb_1 ifOF
  generalize hr : (orMF _ _ e : R Bool) = r
  intro h
  cases r with
  | ok c =>
    cases c with
    | false => rfl
    | true => cases h
  | _ => cases h
def Shape (o : Out) : Prop := ∃ (a b : Int) (x0 x2 x3 x4 x5 x6 x7 x8 x9 x10 x11 x12 x13 x14 x15 x16 x17 x18 x19 x20 : Option Sl), Inv2 a b ∧ o = .nx [x0, some (.st a b), x2, x3, x4, x5, x6, x7, x8, x9, x10, x11, x12, x13, x14, x15, x16, x17, x18, x19, x20]
theorem stOf_shape {o : Out} {a b : Int} (h : Inv2 a b) (e : stOf o = some (a, b)) : Shape o := by
  unfold stOf at e
  split at e
  · cases e
    exact ⟨_, _, _, _, _, _, _, _, _, _, _, _, _, _, _, _, _, _, _, _, _, _, h, rfl⟩
  · cases e
theorem lb_ok (a b : Int) (x0 x2 x3 x4 x5 x6 x7 x8 x9 x10 x11 x12 x13 x14 x15 x16 x17 x18 x19 x20 : Option Sl) (h : Inv2 a b) : Shape (lb [x0, some (.st a b), x2, x3, x4, x5, x6, x7, x8, x9, x10, x11, x12, x13, x14, x15, x16, x17, x18, x19, x20]) := by
  obtain ⟨n, ps, a', b', hc, i1, e1⟩ := drawn_ok a b h fun n ps q => (all_good n ps q).1
  obtain ⟨g1, g2, g3⟩ := all_good n ps hc
  have e0 : lb_0 [x0, some (.st a b), x2, x3, x4, x5, x6, x7, x8, x9, x10, x11, x12, x13, x14, x15, x16, x17, x18, x19, x20] = .nx (envB n a' b' (some (.val (.lst ps))) (ordOf n ps) x0 x2 x6 x7 x8 x9 x10 x11 x12 x13 x14 x15 x16 x17 x18 x19 x20) := by
    simp [lb_0, asgE, nilA, callT, R.bind, R.map, R.calm, R.out, e1, tupM, bindAll, putM, bindO]
  have e2 := lb_1_keep (g3 a' b' x0 x2 x6 x7 x8 x9 x10 x11 x12 x13 x14 x15 x16 x17 x18 x19 x20)
  have e3 := hvN n hc.1 hc.2.1 g2 a' b' (some (.val (.lst ps))) x0 x2 x6 x7 x8 x9 x10 x11 x12 x13 x14 x15 x16 x17 x18 x19 x20
  show Shape (seqO lb_0 (seqO lb_1 lbQ) _)
  simp only [seqO]
  rw [e0]
  dsimp only
  rw [e2]
  exact stOf_shape i1 e3
theorem lr_ok (x0 x2 x3 x4 x5 x6 x7 x8 x9 x10 x11 x12 x13 x14 x15 x16 x17 x18 x19 x20 : Option Sl) (x1 : Option Sl) : isT (lr [x0, x1, x2, x3, x4, x5, x6, x7, x8, x9, x10, x11, x12, x13, x14, x15, x16, x17, x18, x19, x20]) = true := by kernel_rfl
theorem plain (A B : Int) (h1 : 0 ≤ A) (h2 : 0 ≤ B) (h3 : B < bigM) : isT (rest_law (env1 21 A B)) = true := by
  show isT (seqO lr_loop lr [none, some (.st A B), none, none, none, none, none, none, none, none, none, none, none, none, none, none, none, none, none, none, none]) = true
  have two : ∀ e, lr_loop e = (match putM 2 (.int 0) e with | .ok e => (match lb e with | .nx e' => loopD (putM 2) lb [.int 1, .int 2] e' | .ct e' => loopD (putM 2) lb [.int 1, .int 2] e' | .bk e' => .nx e' | o => o) | _ => .stuck) := fun e => rfl
  have one : ∀ e, loopD (putM 2) lb [.int 1, .int 2] e = (match putM 2 (.int 1) e with | .ok e => (match lb e with | .nx e' => loopD (putM 2) lb [.int 2] e' | .ct e' => loopD (putM 2) lb [.int 2] e' | .bk e' => .nx e' | o => o) | _ => .stuck) := fun e => rfl
  have last : ∀ e, loopD (putM 2) lb [.int 2] e = (match putM 2 (.int 2) e with | .ok e => (match lb e with | .nx e' => .nx e' | .ct e' => .nx e' | .bk e' => .nx e' | o => o) | _ => .stuck) := fun e => rfl
  obtain ⟨a, b, x0, x2, x3, x4, x5, x6, x7, x8, x9, x10, x11, x12, x13, x14, x15, x16, x17, x18, x19, x20, i1, q1⟩ := lb_ok A B none (sI 0) none none none none none none none none none none none none none none none none none none ⟨h1, h2, h3⟩
  obtain ⟨a', b', y0, y2, y3, y4, y5, y6, y7, y8, y9, y10, y11, y12, y13, y14, y15, y16, y17, y18, y19, y20, i2, q2⟩ := lb_ok a b x0 (sI 1) x3 x4 x5 x6 x7 x8 x9 x10 x11 x12 x13 x14 x15 x16 x17 x18 x19 x20 i1
  obtain ⟨a2, b2, z0, z2, z3, z4, z5, z6, z7, z8, z9, z10, z11, z12, z13, z14, z15, z16, z17, z18, z19, z20, i3, q3⟩ := lb_ok a' b' y0 (sI 2) y3 y4 y5 y6 y7 y8 y9 y10 y11 y12 y13 y14 y15 y16 y17 y18 y19 y20 i2
  simp only [seqO]
  rw [two]
  simp only [putM, List.set]
  rw [q1]
  dsimp only
  rw [one]
  simp only [putM, List.set]
  rw [q2]
  dsimp only
  rw [last]
  simp only [putM, List.set]
  rw [q3]
  exact lr_ok _ _ _ _ _ _ _ _ _ _ _ _ _ _ _ _ _ _ _ _ _
end
end Py
namespace Py
open PySem PySem.Spec PyProof.Rows L2
/-! ### what the top has written; the head -/
theorem all_mk {l : PySem.W.OpenLaw} {w : World} {K : PySem.W.Frag} {h : Heap} {mg : Str → Option Value} {fa f1 f2 f3 f4 f5 f6 f7 f8 f9 f10 f11 f12 f13 f14 f15 f16 f17 f18 f19 f20 f21 f22 f23 f24 : Addr} (X : K.In h) (G : h.Ns mainGlobals mg) (hfa : mg "law" = some (.ref fa))
    {od1 an1 od2 an2 od3 an3 od4 an4 od5 an5 od6 an6 od7 an7 od8 an8 od9 an9 od10 an10 od11 an11 od12 an12 od13 an13 od14 an14 od15 an15 od16 an16 od17 an17 od18 an18 od19 an19 od20 an20 od21 an21 od22 an22 od23 an23 od24 an24 : Option Addr} {sl1 sl2 sl3 sl4 sl5 sl6 sl7 sl8 sl9 sl10 sl11 sl12 sl13 sl14 sl15 sl16 sl17 sl18 sl19 sl20 sl21 sl22 sl23 sl24 : Array (Option Value)}
    {oc1 kV1 dc1 pm1 cd1 ct1 oc2 kV2 dc2 pm2 cd2 ct2 oc3 kV3 dc3 pm3 cd3 ct3 oc4 kV4 dc4 pm4 cd4 ct4 oc5 kV5 dc5 pm5 cd5 ct5 oc6 kV6 dc6 pm6 cd6 ct6 oc7 kV7 dc7 pm7 cd7 ct7 oc8 kV8 dc8 pm8 cd8 ct8 oc9 kV9 dc9 pm9 cd9 ct9 oc10 kV10 dc10 pm10 cd10 ct10 oc11 kV11 dc11 pm11 cd11 ct11 oc12 kV12 dc12 pm12 cd12 ct12 oc13 kV13 dc13 pm13 cd13 ct13 oc14 kV14 dc14 pm14 cd14 ct14 oc15 kV15 dc15 pm15 cd15 ct15 oc16 kV16 dc16 pm16 cd16 ct16 oc17 kV17 dc17 pm17 cd17 ct17 oc18 kV18 dc18 pm18 cd18 ct18 oc19 kV19 dc19 pm19 cd19 ct19 oc20 kV20 dc20 pm20 cd20 ct20 oc21 kV21 dc21 pm21 cd21 ct21 oc22 kV22 dc22 pm22 cd22 ct22 oc23 kV23 dc23 pm23 cd23 ct23 oc24 kV24 dc24 pm24 cd24 ct24 : Value}
    (a1 : PySem.W.nsIn K mainGlobals "is_integer" = some (some (.ref f1))) (l1 : K.lookup f1 = some ⟨oc1, od1, .func (PySem.W.fnOf "is_integer" "is_integer" (defArgs (topS 5)) (defBody (topS 5)) (defScope (topS 5)) .none kV1 dc1 pm1 an1 cd1 ct1), sl1⟩) (c1 : PySem.W.codeIn K cd1 "is_integer" = true) (k1 : PySem.W.keepIn K (.ref f1) = true)
    (a2 : PySem.W.nsIn K mainGlobals "is_order" = some (some (.ref f2))) (l2 : K.lookup f2 = some ⟨oc2, od2, .func (PySem.W.fnOf "is_order" "is_order" (defArgs (topS 8)) (defBody (topS 8)) (defScope (topS 8)) .none kV2 dc2 pm2 an2 cd2 ct2), sl2⟩) (c2 : PySem.W.codeIn K cd2 "is_order" = true) (k2 : PySem.W.keepIn K (.ref f2) = true)
    (a3 : PySem.W.nsIn K mainGlobals "check_order" = some (some (.ref f3))) (l3 : K.lookup f3 = some ⟨oc3, od3, .func (PySem.W.fnOf "check_order" "check_order" (defArgs (topS 9)) (defBody (topS 9)) (defScope (topS 9)) .none kV3 dc3 pm3 an3 cd3 ct3), sl3⟩) (c3 : PySem.W.codeIn K cd3 "check_order" = true) (k3 : PySem.W.keepIn K (.ref f3) = true)
    (a4 : PySem.W.nsIn K mainGlobals "choices_below" = some (some (.ref f4))) (l4 : K.lookup f4 = some ⟨oc4, od4, .func (PySem.W.fnOf "choices_below" "choices_below" (defArgs (topS 10)) (defBody (topS 10)) (defScope (topS 10)) .none kV4 dc4 pm4 an4 cd4 ct4), sl4⟩) (c4 : PySem.W.codeIn K cd4 "choices_below" = true) (k4 : PySem.W.keepIn K (.ref f4) = true)
    (a5 : PySem.W.nsIn K mainGlobals "filters" = some (some (.ref f5))) (l5 : K.lookup f5 = some ⟨oc5, od5, .func (PySem.W.fnOf "filters" "filters" (defArgs (topS 11)) (defBody (topS 11)) (defScope (topS 11)) .none kV5 dc5 pm5 an5 cd5 ct5), sl5⟩) (c5 : PySem.W.codeIn K cd5 "filters" = true) (k5 : PySem.W.keepIn K (.ref f5) = true)
    (a6 : PySem.W.nsIn K mainGlobals "antichains" = some (some (.ref f6))) (l6 : K.lookup f6 = some ⟨oc6, od6, .func (PySem.W.fnOf "antichains" "antichains" (defArgs (topS 12)) (defBody (topS 12)) (defScope (topS 12)) .none kV6 dc6 pm6 an6 cd6 ct6), sl6⟩) (c6 : PySem.W.codeIn K cd6 "antichains" = true) (k6 : PySem.W.keepIn K (.ref f6) = true)
    (a7 : PySem.W.nsIn K mainGlobals "extensions" = some (some (.ref f7))) (l7 : K.lookup f7 = some ⟨oc7, od7, .func (PySem.W.fnOf "extensions" "extensions" (defArgs (topS 13)) (defBody (topS 13)) (defScope (topS 13)) .none kV7 dc7 pm7 an7 cd7 ct7), sl7⟩) (c7 : PySem.W.codeIn K cd7 "extensions" = true) (k7 : PySem.W.keepIn K (.ref f7) = true)
    (a8 : PySem.W.nsIn K mainGlobals "natural" = some (some (.ref f8))) (l8 : K.lookup f8 = some ⟨oc8, od8, .func (PySem.W.fnOf "natural" "natural" (defArgs (topS 14)) (defBody (topS 14)) (defScope (topS 14)) .none kV8 dc8 pm8 an8 cd8 ct8), sl8⟩) (c8 : PySem.W.codeIn K cd8 "natural" = true) (k8 : PySem.W.keepIn K (.ref f8) = true)
    (a9 : PySem.W.nsIn K mainGlobals "longest_chain" = some (some (.ref f9))) (l9 : K.lookup f9 = some ⟨oc9, od9, .func (PySem.W.fnOf "longest_chain" "longest_chain" (defArgs (topS 15)) (defBody (topS 15)) (defScope (topS 15)) .none kV9 dc9 pm9 an9 cd9 ct9), sl9⟩) (c9 : PySem.W.codeIn K cd9 "longest_chain" = true) (k9 : PySem.W.keepIn K (.ref f9) = true)
    (a10 : PySem.W.nsIn K mainGlobals "covers" = some (some (.ref f10))) (l10 : K.lookup f10 = some ⟨oc10, od10, .func (PySem.W.fnOf "covers" "covers" (defArgs (topS 16)) (defBody (topS 16)) (defScope (topS 16)) .none kV10 dc10 pm10 an10 cd10 ct10), sl10⟩) (c10 : PySem.W.codeIn K cd10 "covers" = true) (k10 : PySem.W.keepIn K (.ref f10) = true)
    (a11 : PySem.W.nsIn K mainGlobals "closed_order" = some (some (.ref f11))) (l11 : K.lookup f11 = some ⟨oc11, od11, .func (PySem.W.fnOf "closed_order" "closed_order" (defArgs (topS 17)) (defBody (topS 17)) (defScope (topS 17)) .none kV11 dc11 pm11 an11 cd11 ct11), sl11⟩) (c11 : PySem.W.codeIn K cd11 "closed_order" = true) (k11 : PySem.W.keepIn K (.ref f11) = true)
    (a12 : PySem.W.nsIn K mainGlobals "_law_state" = some (some (.ref f12))) (l12 : K.lookup f12 = some ⟨oc12, od12, .func (PySem.W.fnOf "_law_state" "_law_state" (defArgs (topS 19)) (defBody (topS 19)) (defScope (topS 19)) .none kV12 dc12 pm12 an12 cd12 ct12), sl12⟩) (c12 : PySem.W.codeIn K cd12 "_law_state" = true) (k12 : PySem.W.keepIn K (.ref f12) = true)
    (a13 : PySem.W.nsIn K mainGlobals "_law_take" = some (some (.ref f13))) (l13 : K.lookup f13 = some ⟨oc13, od13, .func (PySem.W.fnOf "_law_take" "_law_take" (defArgs (topS 20)) (defBody (topS 20)) (defScope (topS 20)) .none kV13 dc13 pm13 an13 cd13 ct13), sl13⟩) (c13 : PySem.W.codeIn K cd13 "_law_take" = true) (k13 : PySem.W.keepIn K (.ref f13) = true)
    (a14 : PySem.W.nsIn K mainGlobals "_law_is_whole" = some (some (.ref f14))) (l14 : K.lookup f14 = some ⟨oc14, od14, .func (PySem.W.fnOf "_law_is_whole" "_law_is_whole" (defArgs (topS 21)) (defBody (topS 21)) (defScope (topS 21)) .none kV14 dc14 pm14 an14 cd14 ct14), sl14⟩) (c14 : PySem.W.codeIn K cd14 "_law_is_whole" = true) (k14 : PySem.W.keepIn K (.ref f14) = true)
    (a15 : PySem.W.nsIn K mainGlobals "_law_same" = some (some (.ref f15))) (l15 : K.lookup f15 = some ⟨oc15, od15, .func (PySem.W.fnOf "_law_same" "_law_same" (defArgs (topS 22)) (defBody (topS 22)) (defScope (topS 22)) .none kV15 dc15 pm15 an15 cd15 ct15), sl15⟩) (c15 : PySem.W.codeIn K cd15 "_law_same" = true) (k15 : PySem.W.keepIn K (.ref f15) = true)
    (a16 : PySem.W.nsIn K mainGlobals "_law_says" = some (some (.ref f16))) (l16 : K.lookup f16 = some ⟨oc16, od16, .func (PySem.W.fnOf "_law_says" "_law_says" (defArgs (topS 23)) (defBody (topS 23)) (defScope (topS 23)) .none kV16 dc16 pm16 an16 cd16 ct16), sl16⟩) (c16 : PySem.W.codeIn K cd16 "_law_says" = true) (k16 : PySem.W.keepIn K (.ref f16) = true)
    (a17 : PySem.W.nsIn K mainGlobals "_law_picks" = some (some (.ref f17))) (l17 : K.lookup f17 = some ⟨oc17, od17, .func (PySem.W.fnOf "_law_picks" "_law_picks" (defArgs (topS 24)) (defBody (topS 24)) (defScope (topS 24)) .none kV17 dc17 pm17 an17 cd17 ct17), sl17⟩) (c17 : PySem.W.codeIn K cd17 "_law_picks" = true) (k17 : PySem.W.keepIn K (.ref f17) = true)
    (a18 : PySem.W.nsIn K mainGlobals "_law_reason" = some (some (.ref f18))) (l18 : K.lookup f18 = some ⟨oc18, od18, .func (PySem.W.fnOf "_law_reason" "_law_reason" (defArgs (topS 25)) (defBody (topS 25)) (defScope (topS 25)) .none kV18 dc18 pm18 an18 cd18 ct18), sl18⟩) (c18 : PySem.W.codeIn K cd18 "_law_reason" = true) (k18 : PySem.W.keepIn K (.ref f18) = true)
    (a19 : PySem.W.nsIn K mainGlobals "_law_closed_pairs" = some (some (.ref f19))) (l19 : K.lookup f19 = some ⟨oc19, od19, .func (PySem.W.fnOf "_law_closed_pairs" "_law_closed_pairs" (defArgs (topS 26)) (defBody (topS 26)) (defScope (topS 26)) .none kV19 dc19 pm19 an19 cd19 ct19), sl19⟩) (c19 : PySem.W.codeIn K cd19 "_law_closed_pairs" = true) (k19 : PySem.W.keepIn K (.ref f19) = true)
    (a20 : PySem.W.nsIn K mainGlobals "_law_drawn_order" = some (some (.ref f20))) (l20 : K.lookup f20 = some ⟨oc20, od20, .func (PySem.W.fnOf "_law_drawn_order" "_law_drawn_order" (defArgs (topS 27)) (defBody (topS 27)) (defScope (topS 27)) .none kV20 dc20 pm20 an20 cd20 ct20), sl20⟩) (c20 : PySem.W.codeIn K cd20 "_law_drawn_order" = true) (k20 : PySem.W.keepIn K (.ref f20) = true)
    (a21 : PySem.W.nsIn K mainGlobals "_law_sets_of" = some (some (.ref f21))) (l21 : K.lookup f21 = some ⟨oc21, od21, .func (PySem.W.fnOf "_law_sets_of" "_law_sets_of" (defArgs (topS 28)) (defBody (topS 28)) (defScope (topS 28)) .none kV21 dc21 pm21 an21 cd21 ct21), sl21⟩) (c21 : PySem.W.codeIn K cd21 "_law_sets_of" = true) (k21 : PySem.W.keepIn K (.ref f21) = true)
    (a22 : PySem.W.nsIn K mainGlobals "_law_rows_of" = some (some (.ref f22))) (l22 : K.lookup f22 = some ⟨oc22, od22, .func (PySem.W.fnOf "_law_rows_of" "_law_rows_of" (defArgs (topS 29)) (defBody (topS 29)) (defScope (topS 29)) .none kV22 dc22 pm22 an22 cd22 ct22), sl22⟩) (c22 : PySem.W.codeIn K cd22 "_law_rows_of" = true) (k22 : PySem.W.keepIn K (.ref f22) = true)
    (a23 : PySem.W.nsIn K mainGlobals "_law_is_chain" = some (some (.ref f23))) (l23 : K.lookup f23 = some ⟨oc23, od23, .func (PySem.W.fnOf "_law_is_chain" "_law_is_chain" (defArgs (topS 30)) (defBody (topS 30)) (defScope (topS 30)) .none kV23 dc23 pm23 an23 cd23 ct23), sl23⟩) (c23 : PySem.W.codeIn K cd23 "_law_is_chain" = true) (k23 : PySem.W.keepIn K (.ref f23) = true)
    (a24 : PySem.W.nsIn K mainGlobals "law" = some (some (.ref f24))) (l24 : K.lookup f24 = some ⟨oc24, od24, .func (PySem.W.fnOf "law" "law" (defArgs (topS 31)) (defBody (topS 31)) (defScope (topS 31)) .none kV24 dc24 pm24 an24 cd24 ct24), sl24⟩) (c24 : PySem.W.codeIn K cd24 "law" = true) (k24 : PySem.W.keepIn K (.ref f24) = true)
    (z_isinstance : PySem.W.nsIn K mainGlobals "isinstance" = some none)
    (z_int : PySem.W.nsIn K mainGlobals "int" = some none)
    (z_bool : PySem.W.nsIn K mainGlobals "bool" = some none)
    (z_tuple : PySem.W.nsIn K mainGlobals "tuple" = some none)
    (z_len : PySem.W.nsIn K mainGlobals "len" = some none)
    (z_all : PySem.W.nsIn K mainGlobals "all" = some none)
    (z_list : PySem.W.nsIn K mainGlobals "list" = some none)
    (z_sorted : PySem.W.nsIn K mainGlobals "sorted" = some none)
    (z_set : PySem.W.nsIn K mainGlobals "set" = some none)
    (z_any : PySem.W.nsIn K mainGlobals "any" = some none)
    (z_range : PySem.W.nsIn K mainGlobals "range" = some none)
    (z_max : PySem.W.nsIn K mainGlobals "max" = some none)
    (z_abs : PySem.W.nsIn K mainGlobals "abs" = some none)
    (z_str : PySem.W.nsIn K mainGlobals "str" = some none)
    {tk0 : Tok} (q0 : PySem.W.nsIn K mainGlobals "MOST_ITEMS" = some (some (.int 4 tk0)))
    {C0 : Addr} (ea0 : PySem.W.nsIn K mainGlobals "Malformed" = some (some (.ref C0))) (eb0 : PySem.W.excIn K C0 [.type "ValueError", .type "Exception", .type "BaseException", .type "object"] "ValueError.__new__" = true) (ec0 : PySem.W.keepIn K (.ref C0) = true) (ed0 : PySem.W.subIn K (.ref C0) (.type "BaseException") = some true) (ee0 : PySem.W.typeIn K (.ref C0) = some (.type "type")) (ef0 : PySem.W.isClsIn K C0 = true) (eg0 : PySem.W.subIn K (.ref C0) (.ref C0) = some true)
    : ∃ fd : FuncData, (∀ (s : Shared) (v : Value), BindsTo s fd ⟨[v], []⟩ [("script", v)]) ∧ ∀ base : Heap, K.In base → base.Ns mainGlobals mg → FnOk l.prog w K mg base (CX l.prog w) 8 fa fd ["script"] (spLawK K) := by
  have e := hfa.symm.trans (PySem.W.mg_of X G a24)
  cases e
  have F1 := fun_mk (st := topS 5) l1 c1 k1
  have F2 := fun_mk (st := topS 8) l2 c2 k2
  have F3 := fun_mk (st := topS 9) l3 c3 k3
  have F4 := fun_mk (st := topS 10) l4 c4 k4
  have F5 := fun_mk (st := topS 11) l5 c5 k5
  have F6 := fun_mk (st := topS 12) l6 c6 k6
  have F7 := fun_mk (st := topS 13) l7 c7 k7
  have F8 := fun_mk (st := topS 14) l8 c8 k8
  have F9 := fun_mk (st := topS 15) l9 c9 k9
  have F10 := fun_mk (st := topS 16) l10 c10 k10
  have F11 := fun_mk (st := topS 17) l11 c11 k11
  have F12 := fun_mk (st := topS 19) l12 c12 k12
  have F13 := fun_mk (st := topS 20) l13 c13 k13
  have F14 := fun_mk (st := topS 21) l14 c14 k14
  have F15 := fun_mk (st := topS 22) l15 c15 k15
  have F16 := fun_mk (st := topS 23) l16 c16 k16
  have F17 := fun_mk (st := topS 24) l17 c17 k17
  have F18 := fun_mk (st := topS 25) l18 c18 k18
  have F19 := fun_mk (st := topS 26) l19 c19 k19
  have F20 := fun_mk (st := topS 27) l20 c20 k20
  have F21 := fun_mk (st := topS 28) l21 c21 k21
  have F22 := fun_mk (st := topS 29) l22 c22 k22
  have F23 := fun_mk (st := topS 30) l23 c23 k23
  have F24 := fun_mk (st := topS 31) l24 c24 k24
  have b1 := F1.binds (ps := ["value"]) fun _ _ _ _ _ _ us hl => match us, hl with | [_], _ => rfl
  have b2 := F2.binds (ps := ["n", "pairs"]) fun _ _ _ _ _ _ us hl => match us, hl with | [_, _], _ => rfl
  have b3 := F3.binds (ps := ["n", "pairs"]) fun _ _ _ _ _ _ us hl => match us, hl with | [_, _], _ => rfl
  have b4 := F4.binds (ps := ["n"]) fun _ _ _ _ _ _ us hl => match us, hl with | [_], _ => rfl
  have b5 := F5.binds (ps := ["n", "pairs"]) fun _ _ _ _ _ _ us hl => match us, hl with | [_, _], _ => rfl
  have b6 := F6.binds (ps := ["n", "pairs"]) fun _ _ _ _ _ _ us hl => match us, hl with | [_, _], _ => rfl
  have b7 := F7.binds (ps := ["n", "pairs"]) fun _ _ _ _ _ _ us hl => match us, hl with | [_, _], _ => rfl
  have b8 := F8.binds (ps := ["n", "pairs"]) fun _ _ _ _ _ _ us hl => match us, hl with | [_, _], _ => rfl
  have b9 := F9.binds (ps := ["n", "pairs"]) fun _ _ _ _ _ _ us hl => match us, hl with | [_, _], _ => rfl
  have b10 := F10.binds (ps := ["n", "pairs"]) fun _ _ _ _ _ _ us hl => match us, hl with | [_, _], _ => rfl
  have b11 := F11.binds (ps := ["n", "pairs"]) fun _ _ _ _ _ _ us hl => match us, hl with | [_, _], _ => rfl
  have b12 := F12.binds (ps := ["script"]) fun _ _ _ _ _ _ us hl => match us, hl with | [_], _ => rfl
  have b13 := F13.binds (ps := ["state", "m"]) fun _ _ _ _ _ _ us hl => match us, hl with | [_, _], _ => rfl
  have b14 := F14.binds (ps := ["value"]) fun _ _ _ _ _ _ us hl => match us, hl with | [_], _ => rfl
  have b15 := F15.binds (ps := ["one", "two"]) fun _ _ _ _ _ _ us hl => match us, hl with | [_, _], _ => rfl
  have b16 := F16.binds (ps := ["value", "due"]) fun _ _ _ _ _ _ us hl => match us, hl with | [_, _], _ => rfl
  have b17 := F17.binds (ps := ["n", "k"]) fun _ _ _ _ _ _ us hl => match us, hl with | [_, _], _ => rfl
  have b18 := F18.binds (ps := ["f", "given"]) fun _ _ _ _ _ _ us hl => match us, hl with | [_, _], _ => rfl
  have b19 := F19.binds (ps := ["n", "pairs"]) fun _ _ _ _ _ _ us hl => match us, hl with | [_, _], _ => rfl
  have b20 := F20.binds (ps := ["state"]) fun _ _ _ _ _ _ us hl => match us, hl with | [_], _ => rfl
  have b21 := F21.binds (ps := ["n"]) fun _ _ _ _ _ _ us hl => match us, hl with | [_], _ => rfl
  have b22 := F22.binds (ps := ["n", "order"]) fun _ _ _ _ _ _ us hl => match us, hl with | [_, _], _ => rfl
  have b23 := F23.binds (ps := ["own", "order"]) fun _ _ _ _ _ _ us hl => match us, hl with | [_, _], _ => rfl
  refine ⟨PySem.W.fnOf "law" "law" (defArgs (topS 31)) (defBody (topS 31)) (defScope (topS 31)) .none kV24 dc24 pm24 an24 cd24 ct24, fun s v => .of_eq rfl, fun base _ _ => ?_⟩
  have T : Tx ⟨l.prog, w, K, mg, base, (fun n => match n with | 0 => some f8 | 1 => some f9 | 2 => some f10 | 3 => some f7 | 4 => some f6 | 5 => some f5 | 6 => some f11 | _ => none), (fun n => match n with | 0 => some C0 | _ => none), (fun _ => none), (fun _ => [])⟩ := {
    d_is_integer := ⟨f1, _, F1, PySem.W.mg_of X G a1, b1⟩
    d_is_order := ⟨f2, _, F2, PySem.W.mg_of X G a2, b2⟩
    d_check_order := ⟨f3, _, F3, PySem.W.mg_of X G a3, b3⟩
    d_choices_below := ⟨f4, _, F4, PySem.W.mg_of X G a4, b4⟩
    d_filters := ⟨f5, _, F5, PySem.W.mg_of X G a5, b5⟩
    d_antichains := ⟨f6, _, F6, PySem.W.mg_of X G a6, b6⟩
    d_extensions := ⟨f7, _, F7, PySem.W.mg_of X G a7, b7⟩
    d_natural := ⟨f8, _, F8, PySem.W.mg_of X G a8, b8⟩
    d_longest_chain := ⟨f9, _, F9, PySem.W.mg_of X G a9, b9⟩
    d_covers := ⟨f10, _, F10, PySem.W.mg_of X G a10, b10⟩
    d_closed_order := ⟨f11, _, F11, PySem.W.mg_of X G a11, b11⟩
    d__law_state := ⟨f12, _, F12, PySem.W.mg_of X G a12, b12⟩
    d__law_take := ⟨f13, _, F13, PySem.W.mg_of X G a13, b13⟩
    d__law_is_whole := ⟨f14, _, F14, PySem.W.mg_of X G a14, b14⟩
    d__law_same := ⟨f15, _, F15, PySem.W.mg_of X G a15, b15⟩
    d__law_says := ⟨f16, _, F16, PySem.W.mg_of X G a16, b16⟩
    d__law_picks := ⟨f17, _, F17, PySem.W.mg_of X G a17, b17⟩
    d__law_reason := ⟨f18, _, F18, PySem.W.mg_of X G a18, b18⟩
    d__law_closed_pairs := ⟨f19, _, F19, PySem.W.mg_of X G a19, b19⟩
    d__law_drawn_order := ⟨f20, _, F20, PySem.W.mg_of X G a20, b20⟩
    d__law_sets_of := ⟨f21, _, F21, PySem.W.mg_of X G a21, b21⟩
    d__law_rows_of := ⟨f22, _, F22, PySem.W.mg_of X G a22, b22⟩
    d__law_is_chain := ⟨f23, _, F23, PySem.W.mg_of X G a23, b23⟩
    b_isinstance := PySem.W.mg_none_of X G z_isinstance
    b_int := PySem.W.mg_none_of X G z_int
    b_bool := PySem.W.mg_none_of X G z_bool
    b_tuple := PySem.W.mg_none_of X G z_tuple
    b_len := PySem.W.mg_none_of X G z_len
    b_all := PySem.W.mg_none_of X G z_all
    b_list := PySem.W.mg_none_of X G z_list
    b_sorted := PySem.W.mg_none_of X G z_sorted
    b_set := PySem.W.mg_none_of X G z_set
    b_any := PySem.W.mg_none_of X G z_any
    b_range := PySem.W.mg_none_of X G z_range
    b_max := PySem.W.mg_none_of X G z_max
    b_abs := PySem.W.mg_none_of X G z_abs
    b_str := PySem.W.mg_none_of X G z_str
    n_MOST_ITEMS := ⟨_, PySem.W.mg_of X G q0⟩
    x_Malformed := ⟨C0, PySem.W.mg_of X G ea0, rfl, eb0, ec0, ed0, ee0, own_clause ed0 ef0 ee0 eg0⟩
    v_natural := ⟨f8, PySem.W.mg_of X G a8, rfl⟩
    v_longest_chain := ⟨f9, PySem.W.mg_of X G a9, rfl⟩
    v_covers := ⟨f10, PySem.W.mg_of X G a10, rfl⟩
    v_extensions := ⟨f7, PySem.W.mg_of X G a7, rfl⟩
    v_antichains := ⟨f6, PySem.W.mg_of X G a6, rfl⟩
    v_filters := ⟨f5, PySem.W.mg_of X G a5, rfl⟩
    v_closed_order := ⟨f11, PySem.W.mg_of X G a11, rfl⟩
  }
  exact ok_law T (ok_state T st_step st_fin) plain F24
end Py
open PySem PySem.W PyProof.Rows
set_option maxHeartbeats 0 in
theorem PySem.Challenge.cw_hullroads_k65_whole_orders_and_their_par_holds : PySem.Challenge.rw_hullroads_k65_whole_orders_and_their_par.Holds := by
  w_on; o_law; k_head; (case hw => w_witness2)
  k_fill
  refine L2.walk_of (l := PySem.Challenge.rw_hullroads_k65_whole_orders_and_their_par) (n := 63) (k := 8) (x := "script") (CX := fun w => L2.CX PySem.Challenge.rw_hullroads_k65_whole_orders_and_their_par.prog w) (sp := fun w => Py.spLawK _) rfl (by decide) rfl ⟨rfl, by decide, by decide⟩ (fun w h Y => PySem.W.kIn_of Y) ?F (fun _ _ a ns hl _ hS => ⟨a, ns, rfl, hS, fun _ => rfl⟩) (fun _ _ _ _ _ h => Py.cx_no h)
  case F =>
    intro w mg fa h KX G hmg
    refine' Py.all_mk KX G hmg ?a1 ?l1 ?c1 ?k1 ?a2 ?l2 ?c2 ?k2 ?a3 ?l3 ?c3 ?k3 ?a4 ?l4 ?c4 ?k4 ?a5 ?l5 ?c5 ?k5 ?a6 ?l6 ?c6 ?k6 ?a7 ?l7 ?c7 ?k7 ?a8 ?l8 ?c8 ?k8 ?a9 ?l9 ?c9 ?k9 ?a10 ?l10 ?c10 ?k10 ?a11 ?l11 ?c11 ?k11 ?a12 ?l12 ?c12 ?k12 ?a13 ?l13 ?c13 ?k13 ?a14 ?l14 ?c14 ?k14 ?a15 ?l15 ?c15 ?k15 ?a16 ?l16 ?c16 ?k16 ?a17 ?l17 ?c17 ?k17 ?a18 ?l18 ?c18 ?k18 ?a19 ?l19 ?c19 ?k19 ?a20 ?l20 ?c20 ?k20 ?a21 ?l21 ?c21 ?k21 ?a22 ?l22 ?c22 ?k22 ?a23 ?l23 ?c23 ?k23 ?a24 ?l24 ?c24 ?k24 ?z_isinstance ?z_int ?z_bool ?z_tuple ?z_len ?z_all ?z_list ?z_sorted ?z_set ?z_any ?z_range ?z_max ?z_abs ?z_str ?q0 ?ea0 ?eb0 ?ec0 ?ed0 ?ee0 ?ef0 ?eg0
    case a1 => k_is
    case l1 => k_is
    case c1 => k_is
    case k1 => k_is
    case a2 => k_is
    case l2 => k_is
    case c2 => k_is
    case k2 => k_is
    case a3 => k_is
    case l3 => k_is
    case c3 => k_is
    case k3 => k_is
    case a4 => k_is
    case l4 => k_is
    case c4 => k_is
    case k4 => k_is
    case a5 => k_is
    case l5 => k_is
    case c5 => k_is
    case k5 => k_is
    case a6 => k_is
    case l6 => k_is
    case c6 => k_is
    case k6 => k_is
    case a7 => k_is
    case l7 => k_is
    case c7 => k_is
    case k7 => k_is
    case a8 => k_is
    case l8 => k_is
    case c8 => k_is
    case k8 => k_is
    case a9 => k_is
    case l9 => k_is
    case c9 => k_is
    case k9 => k_is
    case a10 => k_is
    case l10 => k_is
    case c10 => k_is
    case k10 => k_is
    case a11 => k_is
    case l11 => k_is
    case c11 => k_is
    case k11 => k_is
    case a12 => k_is
    case l12 => k_is
    case c12 => k_is
    case k12 => k_is
    case a13 => k_is
    case l13 => k_is
    case c13 => k_is
    case k13 => k_is
    case a14 => k_is
    case l14 => k_is
    case c14 => k_is
    case k14 => k_is
    case a15 => k_is
    case l15 => k_is
    case c15 => k_is
    case k15 => k_is
    case a16 => k_is
    case l16 => k_is
    case c16 => k_is
    case k16 => k_is
    case a17 => k_is
    case l17 => k_is
    case c17 => k_is
    case k17 => k_is
    case a18 => k_is
    case l18 => k_is
    case c18 => k_is
    case k18 => k_is
    case a19 => k_is
    case l19 => k_is
    case c19 => k_is
    case k19 => k_is
    case a20 => k_is
    case l20 => k_is
    case c20 => k_is
    case k20 => k_is
    case a21 => k_is
    case l21 => k_is
    case c21 => k_is
    case k21 => k_is
    case a22 => k_is
    case l22 => k_is
    case c22 => k_is
    case k22 => k_is
    case a23 => k_is
    case l23 => k_is
    case c23 => k_is
    case k23 => k_is
    case a24 => k_is
    case l24 => k_is
    case c24 => k_is
    case k24 => k_is
    case z_isinstance => k_is
    case z_int => k_is
    case z_bool => k_is
    case z_tuple => k_is
    case z_len => k_is
    case z_all => k_is
    case z_list => k_is
    case z_sorted => k_is
    case z_set => k_is
    case z_any => k_is
    case z_range => k_is
    case z_max => k_is
    case z_abs => k_is
    case z_str => k_is
    case q0 => k_is
    case ea0 => k_is
    case eb0 => k_exc
    case ec0 => k_is
    case ed0 => k_is
    case ee0 => k_is
    case ef0 => k_is
    case eg0 => k_is
