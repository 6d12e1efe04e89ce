import PyProof.Rows.All
import Wide.All
import OpenK.AllK
import Wide.FinOn
import HandS.Base
import HandS.Call
import HandS.More
import HandS.Replace
import HandS.List
import HandS.Comp
import HandS.Dict
import HandS.Iter
import HandS.Text
import HandS.Words
import HandS.Exc
import HandS.ExcOwn
import HandS.TryMany
import HandS.ExcCtx
import HandS.Conv
import HandS.Flow
import HandS.Style
import HandS.Rev
import HandS.RevRange
import HandS.TupAny
import HandS.Defaults
import HandS.Deep
import HandS.IsInst
import HandS.ExcIs
import HandS.Hot
import HandS.HotCalls
import HandS.SortInts
import KE.KRevSl
import KE.KSortedM
import HandS.TupMul
import KE.DatumOrd
import HandS.SortKw
import HandS.Head0
import HandS.Head1
import HandS.Head2
import HandS.HeadEnd
import HandS.HeadHook1
import HandS.HeadHook2
import HandS.HeadHook3
import HandS.HeadHook4
import KE.KStateDown
import HandS.WordsExc
import HandS.Ends
import Lean
import PySem.Challenge.RW_keeper_k10_a_thing_by_its_shape
set_option Elab.async false
set_option linter.all false
set_option maxRecDepth 100000
set_option maxHeartbeats 4000000
/-! K1: the evaluator's values, the store, and what they mean in the abstract heap. -/
namespace Kp
open PySem PySem.Spec PyProof.Rows L2

abbrev P := PyData
inductive PV where
  | p (x : P)
  | loc (i : Nat)
  | mt (xs : List PV)
  | exc (c : Nat)
inductive Cell where
  | lst (xs : List P)
  | dct (kvs : List (Key × P))
abbrev Sto := List Cell
set_option autoImplicit false
abbrev En := List (Option PV)

mutual
def pdB : PyData → PyData → Bool
  | .none, .none => true
  | .bool a, .bool b => a == b
  | .int a, .int b => a == b
  | .str a, .str b => decide (a = b)
  | .list a, .list b => pdBs a b
  | .tuple a, .tuple b => pdBs a b
  | _, _ => false
def pdBs : List PyData → List PyData → Bool
  | [], [] => true
  | x :: xs, y :: ys => pdB x y && pdBs xs ys
  | _, _ => false
end
mutual
theorem pdB_eq : ∀ a b : PyData, pdB a b = true → a = b
  | .none, .none, _ => rfl
  | .bool a, .bool b, h => by simp [pdB] at h; rw [h]
  | .int a, .int b, h => by simp [pdB] at h; rw [h]
  | .str a, .str b, h => by simp [pdB] at h; rw [h]
  | .list a, .list b, h => by simp [pdB] at h; rw [pdBs_eq a b h]
  | .tuple a, .tuple b, h => by simp [pdB] at h; rw [pdBs_eq a b h]
  | .none, .bool _, h | .none, .int _, h | .none, .str _, h | .none, .list _, h | .none, .tuple _, h | .none, .dict _, h => by simp [pdB] at h
  | .bool _, .none, h | .bool _, .int _, h | .bool _, .str _, h | .bool _, .list _, h | .bool _, .tuple _, h | .bool _, .dict _, h => by simp [pdB] at h
  | .int _, .none, h | .int _, .bool _, h | .int _, .str _, h | .int _, .list _, h | .int _, .tuple _, h | .int _, .dict _, h => by simp [pdB] at h
  | .str _, .none, h | .str _, .bool _, h | .str _, .int _, h | .str _, .list _, h | .str _, .tuple _, h | .str _, .dict _, h => by simp [pdB] at h
  | .list _, .none, h | .list _, .bool _, h | .list _, .int _, h | .list _, .str _, h | .list _, .tuple _, h | .list _, .dict _, h => by simp [pdB] at h
  | .tuple _, .none, h | .tuple _, .bool _, h | .tuple _, .int _, h | .tuple _, .str _, h | .tuple _, .list _, h | .tuple _, .dict _, h => by simp [pdB] at h
  | .dict _, .none, h | .dict _, .bool _, h | .dict _, .int _, h | .dict _, .str _, h | .dict _, .list _, h | .dict _, .tuple _, h | .dict _, .dict _, h => by simp [pdB] at h
theorem pdBs_eq : ∀ a b : List PyData, pdBs a b = true → a = b
  | [], [], _ => rfl
  | x :: xs, y :: ys, h => by simp [pdBs] at h; rw [pdB_eq x y h.1, pdBs_eq xs ys h.2]
  | [], _ :: _, h => by simp [pdBs] at h
  | _ :: _, [], h => by simp [pdBs] at h
end

/-! ### what stays -/
def Still : HO → Prop
  | .tup _ => True
  | .frz _ _ => True
  | _ => False
def Keep (H H' : Hp) : Prop := ∀ b o, H b = some o → Still o → H' b = some o
theorem Keep.refl (H : Hp) : Keep H H := fun _ _ h _ => h
theorem Keep.trans {H H1 H2 : Hp} (a : Keep H H1) (b : Keep H1 H2) : Keep H H2 := fun c o h s => b c o (a c o h s) s
theorem Keep.fresh {H : Hp} {p : Addr} (o : HO) (h : H p = none) : Keep H (upd H p o) := fun b u q _ => by
  rw [upd_ne (ne_of_none q h)]; exact q
theorem Keep.write {H : Hp} {p : Addr} {u : HO} (o : HO) (h : H p = some u) (n : ¬ Still u) : Keep H (upd H p o) := fun b w q s => by
  by_cases e : b = p
  · subst e; rw [h] at q; cases q; exact absurd s n
  · rw [upd_ne e]; exact q

/-- a list that nobody changes -/
def FrzL (K : PySem.W.Frag) (H : Hp) (a : Addr) (xs : List V) : Prop :=
  (∃ o, H a = some (.frz o (.lst xs))) ∨
    ∃ (o : Obj) (its : Array Value) (n : Nat), K.lookup a = some o ∧ o.cls = .type "list" ∧ o.dict = none ∧ o.data = .seq its n ∧ its.size ≤ sizeLine ∧ Vals xs its.toList
theorem FrzL.sq {K : PySem.W.Frag} {H : Hp} {a : Addr} {xs : List V} (h : FrzL K H a xs) : SqL K H a xs := by
  rcases h with ⟨o, h⟩ | h
  · exact .inl (.inr ⟨o, h⟩)
  · exact .inr h
theorem FrzL.keep {K : PySem.W.Frag} {H H' : Hp} {a : Addr} {xs : List V} (k : Keep H H') (h : FrzL K H a xs) : FrzL K H' a xs := by
  rcases h with ⟨o, h⟩ | h
  · exact .inl ⟨o, k _ _ h True.intro⟩
  · exact .inr h
theorem sqT_keep {K : PySem.W.Frag} {H H' : Hp} {a : Addr} {xs : List V} (k : Keep H H') (h : SqT K H a xs) : SqT K H' a xs := by
  rcases h with (h | ⟨o, h⟩) | h
  · exact .inl (.inl (k _ _ h True.intro))
  · exact .inl (.inr ⟨o, k _ _ h True.intro⟩)
  · exact .inr h

/-! ### values in the heap -/
mutual
inductive RelP (K : PySem.W.Frag) (H : Hp) : P → V → Prop
  | non : RelP K H .none .non
  | bl (b : Bool) : RelP K H (.bool b) (.bl b)
  | int (i : Int) : RelP K H (.int i) (.int i)
  | str (x : Str) : RelP K H (.str x) (.str x)
  | lst {a : Addr} {ds : List P} {xs : List V} : FrzL K H a xs → RelPs K H ds xs → RelP K H (.list ds) (.ref a)
  | tup {a : Addr} {ds : List P} {xs : List V} : SqT K H a xs → RelPs K H ds xs → RelP K H (.tuple ds) (.ref a)
inductive RelPs (K : PySem.W.Frag) (H : Hp) : List P → List V → Prop
  | nil : RelPs K H [] []
  | cons {d : P} {ds : List P} {x : V} {xs : List V} : RelP K H d x → RelPs K H ds xs → RelPs K H (d :: ds) (x :: xs)
end
section
variable {K : PySem.W.Frag} {H H' : Hp}
mutual
theorem RelP.keep (k : Keep H H') : ∀ (d : P) (x : V), RelP K H d x → RelP K H' d x
  | .none, _, h => by cases h; exact .non
  | .bool _, _, h => by cases h; exact .bl _
  | .int _, _, h => by cases h; exact .int _
  | .str _, _, h => by cases h; exact .str _
  | .list ds, _, h => by
    cases h with
    | lst a b => exact .lst (a.keep k) (RelPs.keep k ds _ b)
  | .tuple ds, _, h => by
    cases h with
    | tup a b => exact .tup (sqT_keep k a) (RelPs.keep k ds _ b)
  | .dict _, _, h => by cases h
theorem RelPs.keep (k : Keep H H') : ∀ (ds : List P) (xs : List V), RelPs K H ds xs → RelPs K H' ds xs
  | [], _, h => by cases h; exact .nil
  | d :: ds, _, h => by
    cases h with
    | cons a b => exact .cons (RelP.keep k d _ a) (RelPs.keep k ds _ b)
end
theorem RelPs.length : ∀ {ds : List P} {xs : List V}, RelPs K H ds xs → ds.length = xs.length
  | [], _, h => by cases h; rfl
  | _ :: _, _, h => by
    cases h with
    | cons _ b => simp [RelPs.length b]
theorem RelPs.get : ∀ {ds : List P} {xs : List V} {i : Nat} {d : P}, RelPs K H ds xs → ds[i]? = some d → ∃ x, xs[i]? = some x ∧ RelP K H d x
  | [], _, _, _, h, e => by simp at e
  | _ :: _, _, 0, _, h, e => by
    cases h with
    | cons a _ => simp at e; subst e; exact ⟨_, rfl, a⟩
  | _ :: _, _, i + 1, _, h, e => by
    cases h with
    | cons _ b =>
      obtain ⟨x, h1, h2⟩ := RelPs.get (i := i) b (by simpa using e)
      exact ⟨x, by simpa using h1, h2⟩
theorem RelPs.get' : ∀ {ds : List P} {xs : List V} {i : Nat} {x : V}, RelPs K H ds xs → xs[i]? = some x → ∃ d, ds[i]? = some d ∧ RelP K H d x
  | [], _, _, _, h, e => by cases h; simp at e
  | _ :: _, _, 0, _, h, e => by
    cases h with
    | cons a _ => simp at e; subst e; exact ⟨_, rfl, a⟩
  | _ :: _, _, i + 1, _, h, e => by
    cases h with
    | cons _ b =>
      obtain ⟨x, h1, h2⟩ := RelPs.get' (i := i) b (by simpa using e)
      exact ⟨x, by simpa using h1, h2⟩
theorem RelPs.append : ∀ {ds es : List P} {xs ys : List V}, RelPs K H ds xs → RelPs K H es ys → RelPs K H (ds ++ es) (xs ++ ys)
  | [], _, _, _, h, g => by cases h; exact g
  | _ :: _, _, _, _, h, g => by
    cases h with
    | cons a b => exact .cons a (RelPs.append b g)
theorem RelPs.take : ∀ {ds : List P} {xs : List V} (n : Nat), RelPs K H ds xs → RelPs K H (ds.take n) (xs.take n)
  | [], _, n, h => by cases h; simp; exact .nil
  | _ :: _, _, 0, h => .nil
  | _ :: _, _, n + 1, h => by
    cases h with
    | cons a b => exact .cons a (RelPs.take n b)
theorem RelPs.drop : ∀ {ds : List P} {xs : List V} (n : Nat), RelPs K H ds xs → RelPs K H (ds.drop n) (xs.drop n)
  | [], _, n, h => by cases h; simp; exact .nil
  | _ :: _, _, 0, h => h
  | _ :: _, _, n + 1, h => by
    cases h with
    | cons _ b => exact RelPs.drop n b
theorem RelPs.set : ∀ {ds : List P} {xs : List V} (i : Nat) {d : P} {x : V}, RelP K H d x → RelPs K H ds xs → RelPs K H (ds.set i d) (xs.set i x)
  | [], _, _, _, _, _, h => by cases h; exact .nil
  | _ :: _, _, 0, _, _, r, h => by
    cases h with
    | cons _ b => exact .cons r b
  | _ :: _, _, i + 1, _, _, r, h => by
    cases h with
    | cons a b => exact .cons a (RelPs.set i r b)
theorem RelPs.dropLast : ∀ {ds : List P} {xs : List V}, RelPs K H ds xs → RelPs K H ds.dropLast xs.dropLast
  | [], _, h => by cases h; exact .nil
  | [_], _, h => by
    cases h with
    | cons _ b => cases b; exact .nil
  | _ :: _ :: _, _, h => by
    cases h with
    | cons a b =>
      cases b with
      | cons c d => exact .cons a (RelPs.dropLast (.cons c d))
theorem RelPs.reverse {ds : List P} {xs : List V} (h : RelPs K H ds xs) : RelPs K H ds.reverse xs.reverse := by
  induction ds generalizing xs with
  | nil => cases h; exact .nil
  | cons d ds ih =>
    cases h with
    | cons a b => rw [List.reverse_cons, List.reverse_cons]; exact (ih b).append (.cons a .nil)
theorem RelPs.rep {ds : List P} {xs : List V} (h : RelPs K H ds xs) : ∀ k : Nat, RelPs K H (List.replicate k ds).flatten (List.replicate k xs).flatten
  | 0 => by simp; exact .nil
  | k + 1 => by
    rw [List.replicate_succ, List.replicate_succ, List.flatten_cons, List.flatten_cons]
    exact h.append (RelPs.rep h k)
theorem RelPs.erase : ∀ {ds : List P} {xs : List V} (i : Nat), RelPs K H ds xs → RelPs K H (ds.eraseIdx i) (xs.eraseIdx i)
  | [], _, _, h => by cases h; exact .nil
  | _ :: _, _, 0, h => by
    cases h with
    | cons _ b => exact b
  | _ :: _, _, i + 1, h => by
    cases h with
    | cons a b => exact .cons a (RelPs.erase i b)
theorem RelPs.ints : ∀ {ns : List Int}, RelPs K H (ns.map .int) (ns.map V.int)
  | [] => .nil
  | _ :: _ => .cons (.int _) RelPs.ints
theorem RelPs.toInts : ∀ {ns : List Int} {xs : List V}, RelPs K H (ns.map .int) xs → xs = ns.map V.int
  | [], _, h => by cases h; rfl
  | _ :: _, _, h => by
    cases h with
    | cons a b => cases a; rw [RelPs.toInts b]; rfl
theorem RelPs.toStrs : ∀ {ns : List Str} {xs : List V}, RelPs K H (ns.map .str) xs → xs = ns.map V.str
  | [], _, h => by cases h; rfl
  | _ :: _, _, h => by
    cases h with
    | cons a b => cases a; rw [RelPs.toStrs b]; rfl
theorem RelPs.toBls : ∀ {ns : List Bool} {xs : List V}, RelPs K H (ns.map .bool) xs → xs = ns.map V.bl
  | [], _, h => by cases h; rfl
  | _ :: _, _, h => by
    cases h with
    | cons a b => cases a; rw [RelPs.toBls b]; rfl
theorem RelPs.strs : ∀ {ns : List Str}, RelPs K H (ns.map .str) (ns.map V.str)
  | [] => .nil
  | _ :: _ => .cons (.str _) RelPs.strs
/-! for == -/
mutual
theorem RelP.dp : ∀ (d : P) (x : V), RelP K H d x → Dp K H x d
  | .none, _, h => by cases h; exact .non
  | .bool _, _, h => by cases h; exact .bl _
  | .int _, _, h => by cases h; exact .int _
  | .str _, _, h => by cases h; exact .str _
  | .list ds, _, h => by
    cases h with
    | lst a b => exact .lst a.sq (RelPs.dp ds _ b)
  | .tuple ds, _, h => by
    cases h with
    | tup a b => exact .tup a (RelPs.dp ds _ b)
  | .dict _, _, h => by cases h
theorem RelPs.dp : ∀ (ds : List P) (xs : List V), RelPs K H ds xs → DpAll K H xs ds
  | [], _, h => by cases h; exact .nil
  | d :: ds, _, h => by
    cases h with
    | cons a b => exact .cons (RelP.dp d _ a) (RelPs.dp ds _ b)
end
end

/-! ### locations -/
/-- the exceptions at hand: classes, addresses -/
class Xc where
  at' : Nat → Addr → Prop
def xc0 : Xc := ⟨fun _ _ => False⟩
mutual
inductive RelQ [Xc] (K : PySem.W.Frag) (H : Hp) (ρ : Nat → Addr) (L : Nat) : PV → V → Prop
  | p {d : P} {x : V} : RelP K H d x → RelQ K H ρ L (.p d) x
  | loc {i : Nat} : i < L → RelQ K H ρ L (.loc i) (.ref (ρ i))
  | mt {a : Addr} {ds : List PV} {xs : List V} : SqT K H a xs → RelQs K H ρ L ds xs → RelQ K H ρ L (.mt ds) (.ref a)
  | exc {c : Nat} {a : Addr} : Xc.at' c a → RelQ K H ρ L (.exc c) (.ref a)
inductive RelQs [Xc] (K : PySem.W.Frag) (H : Hp) (ρ : Nat → Addr) (L : Nat) : List PV → List V → Prop
  | nil : RelQs K H ρ L [] []
  | cons {d : PV} {ds : List PV} {x : V} {xs : List V} : RelQ K H ρ L d x → RelQs K H ρ L ds xs → RelQs K H ρ L (d :: ds) (x :: xs)
end
def RelKs (K : PySem.W.Frag) (H : Hp) : List (Key × P) → List (Key × V) → Prop := Paired fun p q => p.1 = q.1 ∧ RelP K H p.2 q.2
def CellOk (K : PySem.W.Frag) (H : Hp) (a : Addr) : Cell → Prop
  | .lst ds => ∃ xs, H a = some (.lst xs) ∧ RelPs K H ds xs
  | .dct kvs => ∃ ws, H a = some (.dK ws) ∧ RelKs K H kvs ws
structure Sim (K : PySem.W.Frag) (ρ : Nat → Addr) (S : Sto) (H : Hp) : Prop where
  cell : ∀ i c, S[i]? = some c → CellOk K H (ρ i) c
  inj : ∀ i j, i < S.length → j < S.length → ρ i = ρ j → i = j
structure Ext (ρ : Nat → Addr) (S : Sto) (H : Hp) (ρ' : Nat → Addr) (S' : Sto) (H' : Hp) : Prop where
  le : S.length ≤ S'.length
  same : ∀ i, i < S.length → ρ' i = ρ i
  keep : Keep H H'
theorem Ext.refl {ρ : Nat → Addr} {S : Sto} {H : Hp} : Ext ρ S H ρ S H := ⟨Nat.le_refl _, fun _ _ => rfl, Keep.refl _⟩
theorem Ext.trans {ρ ρ1 ρ2 : Nat → Addr} {S S1 S2 : Sto} {H H1 H2 : Hp} (a : Ext ρ S H ρ1 S1 H1) (b : Ext ρ1 S1 H1 ρ2 S2 H2) : Ext ρ S H ρ2 S2 H2 :=
  ⟨Nat.le_trans a.le b.le, fun i h => (b.same i (Nat.lt_of_lt_of_le h a.le)).trans (a.same i h), a.keep.trans b.keep⟩
section
variable [Xc] {K : PySem.W.Frag} {ρ ρ' : Nat → Addr} {S S' : Sto} {H H' : Hp} {L L' : Nat}
mutual
theorem RelQ.mono (k : Keep H H') (hl : L ≤ L') (hs : ∀ i, i < L → ρ' i = ρ i) : ∀ (d : PV) (x : V), RelQ K H ρ L d x → RelQ K H' ρ' L' d x
  | .p d, _, h => by
    cases h with
    | p r => exact .p (r.keep k)
  | .loc i, _, h => by
    cases h with
    | loc r => rw [← hs i r]; exact .loc (Nat.lt_of_lt_of_le r hl)
  | .mt ds, _, h => by
    cases h with
    | mt a b => exact .mt (sqT_keep k a) (RelQs.mono k hl hs ds _ b)
  | .exc c, _, h => by
    cases h with
    | exc r => exact .exc r
theorem RelQs.mono (k : Keep H H') (hl : L ≤ L') (hs : ∀ i, i < L → ρ' i = ρ i) : ∀ (ds : List PV) (xs : List V), RelQs K H ρ L ds xs → RelQs K H' ρ' L' ds xs
  | [], _, h => by cases h; exact .nil
  | d :: ds, _, h => by
    cases h with
    | cons a b => exact .cons (RelQ.mono k hl hs d _ a) (RelQs.mono k hl hs ds _ b)
end
theorem RelQ.ext {d : PV} {x : V} (h : RelQ K H ρ S.length d x) (e : Ext ρ S H ρ' S' H') : RelQ K H' ρ' S'.length d x := h.mono e.keep e.le e.same
theorem RelQs.ext {d : List PV} {x : List V} (h : RelQs K H ρ S.length d x) (e : Ext ρ S H ρ' S' H') : RelQs K H' ρ' S'.length d x := h.mono e.keep e.le e.same
theorem RelQs.length : ∀ {ds : List PV} {xs : List V}, RelQs K H ρ L ds xs → ds.length = xs.length
  | [], _, h => by cases h; rfl
  | _ :: _, _, h => by
    cases h with
    | cons _ b => simp [RelQs.length b]
theorem RelQs.get : ∀ {ds : List PV} {xs : List V} {i : Nat} {d : PV}, RelQs K H ρ L ds xs → ds[i]? = some d → ∃ x, xs[i]? = some x ∧ RelQ K H ρ L d x
  | [], _, _, _, h, e => by simp at e
  | _ :: _, _, 0, _, h, e => by
    cases h with
    | cons a _ => simp at e; subst e; exact ⟨_, rfl, a⟩
  | _ :: _, _, i + 1, _, h, e => by
    cases h with
    | cons _ b =>
      obtain ⟨x, h1, h2⟩ := RelQs.get (i := i) b (by simpa using e)
      exact ⟨x, by simpa using h1, h2⟩
theorem RelKs.keep (k : Keep H H') {kvs : List (Key × P)} {ws : List (Key × V)} (h : RelKs K H kvs ws) : RelKs K H' kvs ws :=
  Paired.mapP h fun _ _ r => ⟨r.1, r.2.keep k⟩
theorem CellOk.keep (k : Keep H H') {a : Addr} {c : Cell} (e : H' a = H a) (h : CellOk K H a c) : CellOk K H' a c := by
  cases c with
  | lst ds => obtain ⟨xs, h1, h2⟩ := h; exact ⟨xs, e.trans h1, h2.keep k⟩
  | dct kvs => obtain ⟨xs, h1, h2⟩ := h; exact ⟨xs, e.trans h1, h2.keep k⟩
theorem CellOk.some {a : Addr} {c : Cell} (h : CellOk K H a c) : ∃ o, H a = some o ∧ ¬ Still o := by
  cases c with
  | lst ds => obtain ⟨xs, h1, _⟩ := h; exact ⟨_, h1, fun z => z⟩
  | dct kvs => obtain ⟨xs, h1, _⟩ := h; exact ⟨_, h1, fun z => z⟩
theorem getE_lt {α : Type} {xs : List α} {i : Nat} {x : α} (h : xs[i]? = some x) : i < xs.length := (List.getElem?_eq_some_iff.mp h).1
theorem Sim.ne {p : Addr} (h : Sim K ρ S H) (hp : H p = none) {i : Nat} (hi : i < S.length) : ρ i ≠ p := fun e => by
  obtain ⟨o, q, _⟩ := (h.cell i S[i] (List.getElem?_eq_getElem hi)).some
  rw [e, hp] at q; cases q
/-- the new location's map -/
def put (ρ : Nat → Addr) (n : Nat) (p : Addr) : Nat → Addr := fun i => if i = n then p else ρ i
theorem put_same {n : Nat} {p : Addr} : put ρ n p n = p := by unfold put; rw [if_pos rfl]
theorem put_ne {n i : Nat} {p : Addr} (h : i ≠ n) : put ρ n p i = ρ i := by unfold put; rw [if_neg h]
/-- a new cell -/
theorem Sim.new {p : Addr} {o : HO} {c : Cell} (h : Sim K ρ S H) (hp : H p = none) (hc : CellOk K (upd H p o) p c) :
    Sim K (put ρ S.length p) (S ++ [c]) (upd H p o) ∧ Ext ρ S H (put ρ S.length p) (S ++ [c]) (upd H p o) := by
  have k : Keep H (upd H p o) := Keep.fresh o hp
  refine ⟨⟨fun i d e => ?_, fun i j hi hj e => ?_⟩, ⟨by simp, fun i hi => put_ne (Nat.ne_of_lt hi), k⟩⟩
  · by_cases hi : i < S.length
    · rw [List.getElem?_append_left hi] at e
      rw [put_ne (Nat.ne_of_lt hi)]
      exact (h.cell i d e).keep k (upd_ne (h.ne hp hi))
    · have hi2 := getE_lt e
      simp at hi2
      have : i = S.length := by omega
      subst this
      rw [List.getElem?_append_right (Nat.le_refl _)] at e
      simp at e; subst e
      rw [put_same]; exact hc
  · simp at hi hj
    by_cases a : i = S.length
    · by_cases b : j = S.length
      · rw [a, b]
      · rw [a, put_same, put_ne b] at e
        exact absurd e.symm (h.ne hp (by omega))
    · by_cases b : j = S.length
      · rw [b, put_same, put_ne a] at e
        exact absurd e (h.ne hp (by omega))
      · rw [put_ne a, put_ne b] at e
        exact h.inj i j (by omega) (by omega) e
/-- a cell written -/
theorem Sim.write {i : Nat} {o : HO} {c d : Cell} (h : Sim K ρ S H) (hi : S[i]? = some d) (hc : CellOk K (upd H (ρ i) o) (ρ i) c) :
    Sim K ρ (S.set i c) (upd H (ρ i) o) ∧ Ext ρ S H ρ (S.set i c) (upd H (ρ i) o) := by
  have lt := getE_lt hi
  obtain ⟨u, e1, ns⟩ := (h.cell i d hi).some
  have k : Keep H (upd H (ρ i) o) := Keep.write o e1 ns
  refine ⟨⟨fun j x e => ?_, fun a b ha hb e => ?_⟩, ⟨by simp, fun _ _ => rfl, k⟩⟩
  · by_cases hj : j = i
    · subst hj
      rw [List.getElem?_set_self lt] at e
      cases e; exact hc
    · rw [List.getElem?_set_ne (Ne.symm hj)] at e
      exact (h.cell j x e).keep k (upd_ne fun q => hj (h.inj j i (getE_lt e) lt q))
  · simp at ha hb
    exact h.inj a b ha hb e
/-- another object is laid (a tuple) -/
theorem Sim.laid {p : Addr} {o : HO} (h : Sim K ρ S H) (hp : H p = none) : Sim K ρ S (upd H p o) ∧ Ext ρ S H ρ S (upd H p o) := by
  have k : Keep H (upd H p o) := Keep.fresh o hp
  exact ⟨⟨fun i c e => (h.cell i c e).keep k (upd_ne (h.ne hp (getE_lt e))), h.inj⟩, ⟨Nat.le_refl _, fun _ _ => rfl, k⟩⟩
end

/-! ### the frame -/
structure EnvOk [Xc] (K : PySem.W.Frag) (H : Hp) (ρ : Nat → Addr) (L : Nat) (en : En) (σ : L2.St) : Prop where
  len : en.length = σ.length
  get : ∀ (i : Nat) (v : PV), en[i]? = some (some v) → ∃ x : V, σ[i]? = some (some x) ∧ RelQ K H ρ L v x
section
variable [Xc] {K : PySem.W.Frag} {ρ ρ' : Nat → Addr} {S S' : Sto} {H H' : Hp} {en : En} {σ : L2.St}
theorem EnvOk.ext (h : EnvOk K H ρ S.length en σ) (e : Ext ρ S H ρ' S' H') : EnvOk K H' ρ' S'.length en σ :=
  ⟨h.len, fun i v g => let ⟨x, a, b⟩ := h.get i v g; ⟨x, a, b.ext e⟩⟩
theorem EnvOk.set {L : Nat} {i : Nat} {v : PV} {x : V} (h : EnvOk K H ρ L en σ) (r : RelQ K H ρ L v x) : EnvOk K H ρ L (en.set i (some v)) (σ.set i (some x)) := by
  refine ⟨by simp [h.len], fun j u g => ?_⟩
  by_cases hj : j = i
  · subst hj
    have lt : j < en.length := by have := getE_lt g; simpa using this
    rw [List.getElem?_set_self lt] at g
    cases g
    exact ⟨x, List.getElem?_set_self (by rw [← h.len]; exact lt), r⟩
  · rw [List.getElem?_set_ne (Ne.symm hj)] at g ⊢
    exact h.get j u g
theorem EnvOk.forget {L : Nat} {i : Nat} (h : EnvOk K H ρ L en σ) : EnvOk K H ρ L (en.set i none) (σ.set i none) := by
  refine ⟨by simp [h.len], fun j u g => ?_⟩
  by_cases hj : j = i
  · subst hj
    have lt : j < en.length := by have := getE_lt g; simpa using this
    rw [List.getElem?_set_self lt] at g
    cases g
  · rw [List.getElem?_set_ne (Ne.symm hj)] at g ⊢
    exact h.get j u g
end

/-! ### results -/
inductive R (α : Type) where
  | ok (a : α) (S : Sto)
  | ex (c : Nat) (S : Sto)
  | no
def R.bind {α β : Type} (r : R α) (f : α → Sto → R β) : R β := match r with
  | .ok a S => f a S
  | .ex c S => .ex c S
  | .no => .no
section
variable {K : PySem.W.Frag} {W : WX} {CV : Nat → Value} {σ : L2.St}
/-- what is wanted behind a result -/
def G {α : Type} (K : PySem.W.Frag) (W : WX) (CV : Nat → Value) (σ : L2.St) (ρ : Nat → Addr) (S : Sto) (H : Hp) (r : R α) (Q : α → (Nat → Addr) → Sto → Hp → Prop) : Prop := match r with
  | .ok a S' => ∀ ρ' H', Ext ρ S H ρ' S' H' → Sim K ρ' S' H' → Q a ρ' S' H'
  | .ex c S' => ∀ ρ' H', Ext ρ S H ρ' S' H' → Sim K ρ' S' H' → W (CV c) none σ H'
  | .no => False
theorem G.imp {α : Type} {ρ : Nat → Addr} {S : Sto} {H : Hp} {r : R α} {Q Q' : α → (Nat → Addr) → Sto → Hp → Prop} (h : G K W CV σ ρ S H r Q)
    (f : ∀ a ρ' S' H', Ext ρ S H ρ' S' H' → Sim K ρ' S' H' → Q a ρ' S' H' → Q' a ρ' S' H') : G K W CV σ ρ S H r Q' := by
  cases r with
  | ok a S' => exact fun ρ' H' e s => f a ρ' S' H' e s (h ρ' H' e s)
  | ex c S' => exact h
  | no => exact h
theorem G.bind {α β : Type} {ρ : Nat → Addr} {S : Sto} {H : Hp} {r : R α} {f : α → Sto → R β} {Q : β → (Nat → Addr) → Sto → Hp → Prop} (h : G K W CV σ ρ S H (r.bind f) Q) :
    G K W CV σ ρ S H r fun a ρ' S' H' => G K W CV σ ρ' S' H' (f a S') Q := by
  cases r with
  | ok a S' =>
    intro ρ' H' e s
    show G K W CV σ ρ' S' H' (f a S') Q
    have h : G K W CV σ ρ S H (f a S') Q := h
    cases q : f a S' with
    | ok b S2 => rw [q] at h; exact fun ρ2 H2 e2 s2 => h ρ2 H2 (e.trans e2) s2
    | ex c S2 => rw [q] at h; exact fun ρ2 H2 e2 s2 => h ρ2 H2 (e.trans e2) s2
    | no => rw [q] at h; exact h
  | ex c S' => exact h
  | no => exact h
/-- from another point -/
theorem G.from {α : Type} {ρ ρ1 : Nat → Addr} {S S1 : Sto} {H H1 : Hp} {r : R α} {Q : α → (Nat → Addr) → Sto → Hp → Prop} (h : G K W CV σ ρ S H r Q) (e : Ext ρ S H ρ1 S1 H1) : G K W CV σ ρ1 S1 H1 r Q := by
  cases r with
  | ok a S' => exact fun ρ' H' e' s => h ρ' H' (e.trans e') s
  | ex c S' => exact fun ρ' H' e' s => h ρ' H' (e.trans e') s
  | no => exact h
variable [Xc]
abbrev QV (K : PySem.W.Frag) (Q : VK) : PV → (Nat → Addr) → Sto → Hp → Prop := fun v ρ S H => ∀ x, RelQ K H ρ S.length v x → Q x H
/-- an expression's reading: by its evaluation -/
def tE (K : PySem.W.Frag) (W : WX) (CV : Nat → Value) (ev : En → Sto → R PV) : TE := fun σ H Q => ∃ en ρ S, EnvOk K H ρ S.length en σ ∧ Sim K ρ S H ∧ G K W CV σ ρ S H (ev en S) (QV K Q)
def tT (K : PySem.W.Frag) (W : WX) (CV : Nat → Value) (ev : En → Sto → R Bool) : TT := fun σ H Q => ∃ en ρ S, EnvOk K H ρ S.length en σ ∧ Sim K ρ S H ∧ G K W CV σ ρ S H (ev en S) (fun b _ _ H' => Q b H')
def tA (K : PySem.W.Frag) (W : WX) (CV : Nat → Value) (ev : En → Sto → R (List PV)) : TA := fun σ H Q => ∃ en ρ S, EnvOk K H ρ S.length en σ ∧ Sim K ρ S H ∧ G K W CV σ ρ S H (ev en S) (fun vs ρ' S' H' => ∀ xs, RelQs K H' ρ' S'.length vs xs → Q xs H')
end
end Kp

set_option Elab.async false
set_option linter.all false
set_option maxRecDepth 100000
set_option maxHeartbeats 4000000
set_option autoImplicit false
/-! K2: a small language of the text's own forms, and its evaluator. -/
namespace Kp
open PySem PySem.Spec PyProof.Rows L2

inductive Bop | add | sub | mul | fdiv | mod | pow
inductive Cop | eq | ne | lt | le | gt | ge | is | isn | inn | nin
inductive Bi | len | tup | lst | int | str | sum | all | max1 | maxd | max2 | min2 | sorted | dict
inductive Mt | append | get2 | pop0 | index | count | reverse | insert | join
  deriving DecidableEq
inductive Ty | tup | lst | str | int | bool
mutual
inductive Ex
  | v (i : Nat) | c (k : P)
  | bin (o : Bop) (a b : Ex) | cmp (o : Cop) (a b : Ex) | neg (a : Ex)
  | and' (a b : Ex) | or' (a b : Ex) | not' (a : Ex) | ife (t a b : Ex)
  | tup (es : Exs) | lst (es : Exs) | dct (ks : List Str) (es : Exs)
  | ix (a i : Ex) | sl (a : Ex) (lo hi : Oe) | rev (a : Ex)
  | call (f : Nat) (es : Exs) | bi (b : Bi) (es : Exs) | mth (m : Mt) (o : Ex) (es : Exs) | isi (a : Ex) (t : Ty) | isx (a : Ex) (ys ns : List Nat)
  | comp (i : Nat) (it : Ix) (tst : Oe) (e : Ex)
inductive Exs
  | nil | cons (e : Ex) (es : Exs)
inductive Oe
  | non | one (e : Ex)
inductive Ix
  | val (e : Ex) | rng1 (a : Ex) | rng2 (a b : Ex) | zip (a b : Ex) | revR (a : Ex) | revL (a : Ex)
end
inductive Tg
  | nm (i : Nat) | tp (is : List Nat)
mutual
inductive Sm
  | asg (t : Tg) (e : Ex) | setI (o i e : Ex) | ex (e : Ex) | ret (e : Ex) | retN
  | ift (t : Ex) (a b : Sms) | for' (t : Tg) (it : Ix) (b : Sms) | while (t : Ex) (b : Sms)
  | raise (c : Nat) | cont | pass
  | tryM (b : Sms) (h : Hs) | tryA (b : Sms) (cs ms : List Nat) (i : Nat) (h : Sms)
inductive Sms
  | nil | cons (s : Sm) (r : Sms)
inductive Hs
  | nil | cons (cs ms : List Nat) (b : Sms) (r : Hs)
end

/-! ### operations -/
def ixP {α : Type} (xs : List α) (i : Int) : Option α := if 0 ≤ i then xs[i.toNat]? else if 0 ≤ i + xs.length then xs[(i + xs.length).toNat]? else none
def cutP {α : Type} (xs : List α) (lo hi : Option Int) : List α := (xs.drop (HT.sIx xs.length 0 lo)).take (HT.sIx xs.length xs.length hi - HT.sIx xs.length 0 lo)
def keyP : P → Option Key
  | .int i => some (.inl i)
  | .str s => some (.inr s)
  | _ => none
def pKey : Key → P
  | .inl i => .int i
  | .inr s => .str s
def luK (kvs : List (Key × P)) (k : Key) : Option P := (kvs.find? fun kv => decide (kv.1 = k)).map (·.2)
def puK (kvs : List (Key × P)) (k : Key) (v : P) : List (Key × P) :=
  if (kvs.any fun kv => decide (kv.1 = k)) = true then kvs.map (fun kv => if kv.1 = k then (kv.1, v) else kv) else kvs ++ [(k, v)]
def intsP : List P → Option (List Int)
  | [] => some []
  | .int i :: r => (intsP r).map (i :: ·)
  | _ :: _ => none
def blsP : List P → Option (List Bool)
  | [] => some []
  | .bool i :: r => (blsP r).map (i :: ·)
  | _ :: _ => none
def strsP : List P → Option (List Str)
  | [] => some []
  | .str i :: r => (strsP r).map (i :: ·)
  | _ :: _ => none
def flatP : P → Bool
  | .none => true
  | .bool _ => true
  | .int _ => true
  | .str _ => true
  | _ => false
/-- the text of a list's items, a tuple's -/
def seqV (S : Sto) : PV → Option (List P)
  | .loc i => match S[i]? with
    | some (.lst xs) => some xs
    | _ => none
  | .p (.tuple xs) => some xs
  | .p (.list xs) => some xs
  | _ => none
mutual
def datV (S : Sto) : PV → Option P
  | .p x => some x
  | .loc i => match S[i]? with
    | some (.lst xs) => some (.list xs)
    | _ => none
  | .mt vs => match datVs S vs with
    | some xs => some (.tuple xs)
    | none => none
  | .exc _ => none
def datVs (S : Sto) : List PV → Option (List P)
  | [] => some []
  | v :: vs => match datV S v, datVs S vs with
    | some x, some xs => some (x :: xs)
    | _, _ => none
end
/-- new cells -/
def newC (xs : List P) (S : Sto) : R PV := .ok (.loc S.length) (S ++ [.lst xs])
def newL (xs : List P) (S : Sto) : R PV := if xs.length ≤ 1000000 then .ok (.loc S.length) (S ++ [.lst xs]) else .no
def okP (x : P) (S : Sto) : R PV := .ok (.p x) S
/-- dicts compared -/
def dcvV (S : Sto) : PV → Option (List (Key × P))
  | .loc i => match S[i]? with
    | some (.dct kvs) => some kvs
    | _ => none
  | _ => none
def dqP (a b : List (Key × P)) : Bool := (a.length == b.length) && a.all fun p => match luK b p.1 with
  | some y => PyData.eqv p.2 y
  | none => false
def dshB (a : List (Key × P)) : Bool := a.all fun p => p.2.canLay0 && decide (p.2.depth ≤ 60)
def dqV (x y : PV) (S : Sto) : R Bool := match dcvV S x, dcvV S y with
  | some a, some b => if (dshB a && dshB b) = true then .ok (dqP a b) S else .no
  | _, _ => .no
def eqV' (x y : PV) (S : Sto) : R Bool := match x, y with
  | .p (.int i), .p (.int j) => .ok (decide (i = j)) S
  | .p (.str i), .p (.str j) => .ok (decide (i = j)) S
  | x, y => match datV S x, datV S y with
    | some a, some b => if (SeqAt.shaped a && SeqAt.shaped b) = true then .ok (PyData.eqv a b) S else .no
    | _, _ => dqV x y S
def allP : List PV → Option (List P)
  | [] => some []
  | .p x :: r => (allP r).map (x :: ·)
  | _ :: _ => none
def tupV (vs : List PV) (S : Sto) : R PV := if vs.length ≤ 1000000 then (match allP vs with
  | some xs => .ok (.p (.tuple xs)) S
  | none => .ok (.mt vs) S) else .no
/-- a text so many times -/
def repS (a : Str) (k : Nat) : Str := ⟨List.foldl (fun x1 x2 => x1 ++ x2) #[] (List.replicate k a.cps)⟩
def CMulB (i j : Int) : Bool := (decide (-(2 ^ 64) < i) && decide (i < 2 ^ 64)) || (decide (-(2 ^ 64) < j) && decide (j < 2 ^ 64))
def binV (o : Bop) (x y : PV) (S : Sto) : R PV := match o, x, y with
  | .add, .p (.int i), .p (.int j) => okP (.int (i + j)) S
  | .sub, .p (.int i), .p (.int j) => okP (.int (i - j)) S
  | .mul, .p (.int i), .p (.int j) => if CMulB i j = true then okP (.int (i * j)) S else .no
  | .fdiv, .p (.int i), .p (.int j) => if 0 < j ∧ j < 1073741824 then okP (.int (i / j)) S else .no
  | .mod, .p (.int i), .p (.int j) => if 0 < j then okP (.int (i % j)) S else .no
  | .pow, .p (.int i), .p (.int j) => if 0 ≤ j ∧ j ≤ 1000000 ∧ i.natAbs < 2 ^ 64 then okP (.int (i ^ j.toNat)) S else .no
  | .add, .p (.str a), .p (.str b) => if a.length + b.length ≤ 1000000 then okP (.str (a ++ b)) S else .no
  | .add, .p (.tuple a), .p (.tuple b) => if a.length + b.length ≤ 1000000 then okP (.tuple (a ++ b)) S else .no
  | .add, .loc i, .loc j => match S[i]?, S[j]? with
    | some (.lst a), some (.lst b) => newL (a ++ b) S
    | _, _ => .no
  | .mul, .loc i, .p (.int k) => match S[i]? with
    | some (.lst a) => if -(2 ^ 63) ≤ k ∧ k < 2 ^ 63 ∧ a.length * k.toNat ≤ 1000000 then newL (List.replicate k.toNat a).flatten S else .no
    | _ => .no
  | .mul, .p (.str a), .p (.int k) => if 0 ≤ k ∧ k ≤ 1000000 ∧ a.length * k.toNat ≤ 1000000 then okP (.str (repS a k.toNat)) S else .no
  | .mul, .p (.tuple xs), .p (.int k) => if 0 ≤ k ∧ k ≤ 1000 ∧ xs.length ≤ 1000 ∧ xs.isEmpty = false then okP (.tuple (List.replicate k.toNat xs).flatten) S else .no
  | _, _, _ => .no
/-- x in y -/
def inV' (x y : PV) (S : Sto) : R Bool := match x, y with
  | .p (.str a), .p (.str b) => if a.length = 1 then .ok (decide (a.cps.getD 0 0 ∈ b.cps.toList)) S else .no
  | .p a, .loc i => (match S[i]? with
    | some (.dct kvs) => (match keyP a with
      | some k => .ok (luK kvs k).isSome S
      | none => .no)
    | some (.lst xs) => if (flatP a && xs.all flatP) = true then .ok (xs.any fun y => PyData.eqv y a) S else .no
    | _ => .no)
  | .p a, .p (.tuple xs) => if (flatP a && xs.all flatP) = true then .ok (xs.any fun y => PyData.eqv y a) S else .no
  | _, _ => .no
def nonP : P → Bool
  | .none => true
  | _ => false
def cmpV (o : Cop) (x y : PV) (S : Sto) : R Bool := match o with
  | .eq => eqV' x y S
  | .ne => (eqV' x y S).bind fun b S => .ok (!b) S
  | .lt => match x, y with
    | .p (.int i), .p (.int j) => .ok (decide (i < j)) S
    | _, _ => .no
  | .le => match x, y with
    | .p (.int i), .p (.int j) => .ok (decide (i ≤ j)) S
    | _, _ => .no
  | .gt => match x, y with
    | .p (.int i), .p (.int j) => .ok (decide (j < i)) S
    | _, _ => .no
  | .ge => match x, y with
    | .p (.int i), .p (.int j) => .ok (decide (j ≤ i)) S
    | _, _ => .no
  | .is => match x, y with
    | .p a, .p .none => .ok (nonP a) S
    | .loc _, .p .none => .ok false S
    | .mt _, .p .none => .ok false S
    | .p (.bool a), .p (.bool b) => .ok (decide (a = b)) S
    | _, _ => .no
  | .isn => match x, y with
    | .p a, .p .none => .ok (!nonP a) S
    | .loc _, .p .none => .ok true S
    | .mt _, .p .none => .ok true S
    | .p (.bool a), .p (.bool b) => .ok (!decide (a = b)) S
    | _, _ => .no
  | .inn => inV' x y S
  | .nin => (inV' x y S).bind fun b S => .ok (!b) S
def truV (x : PV) (S : Sto) : R Bool := match x with
  | .p (.bool b) => .ok b S
  | .p .none => .ok false S
  | .p (.int i) => .ok (i != 0) S
  | .p (.str s) => if s.length ≤ 1000000 then .ok (s.length != 0) S else .no
  | .p (.tuple xs) => .ok (!xs.isEmpty) S
  | .loc i => match S[i]? with
    | some (.lst xs) => .ok (!xs.isEmpty) S
    | some (.dct xs) => .ok (!xs.isEmpty) S
    | none => .no
  | _ => .no
def ixV (x i : PV) (S : Sto) : R PV := match x, i with
  | .p (.tuple xs), .p (.int i) => (match ixP xs i with
    | some v => okP v S
    | none => .no)
  | .p (.list xs), .p (.int i) => (match ixP xs i with
    | some v => okP v S
    | none => .no)
  | .mt xs, .p (.int i) => (match ixP xs i with
    | some v => .ok v S
    | none => .no)
  | .p (.str s), .p (.int i) => if s.length ≤ 1000000 then (match ixP s.cps.toList i with
    | some c => okP (.str ⟨#[c]⟩) S
    | none => .no) else .no
  | .loc l, .p k => (match S[l]? with
    | some (.lst xs) => (match k with
      | .int i => (match ixP xs i with
        | some v => okP v S
        | none => .no)
      | _ => .no)
    | some (.dct kvs) => (match keyP k with
      | some k => (match luK kvs k with
        | some v => okP v S
        | none => .no)
      | none => .no)
    | none => .no)
  | _, _ => .no
def slV (x : PV) (lo hi : Option Int) (S : Sto) : R PV := match x with
  | .p (.tuple xs) => okP (.tuple (cutP xs lo hi)) S
  | .p (.list xs) => newC (cutP xs lo hi) S
  | .p (.str s) => if s.length ≤ 1000000 then okP (.str ⟨(cutP s.cps.toList lo hi).toArray⟩) S else .no
  | .loc l => (match S[l]? with
    | some (.lst xs) => newC (cutP xs lo hi) S
    | _ => .no)
  | _ => .no
def revV (x : PV) (S : Sto) : R PV := match x with
  | .loc l => (match S[l]? with
    | some (.lst xs) => newC xs.reverse S
    | _ => .no)
  | .p (.str s) => if s.length ≤ 1000000 then okP (.str ⟨s.cps.toList.reverse.toArray⟩) S else .no
  | _ => .no
def maxI : Int → List Int → Int
  | m, [] => m
  | m, x :: r => maxI (if x > m then x else m) r
def insI (x : Int) : List Int → List Int
  | [] => [x]
  | y :: r => if x ≤ y then x :: y :: r else y :: insI x r
def sortI : List Int → List Int
  | [] => []
  | x :: r => insI x (sortI r)
def biV (b : Bi) (vs : List PV) (S : Sto) : R PV := match b, vs with
  | .len, [.loc i] => (match S[i]? with
    | some (.lst xs) => okP (.int xs.length) S
    | some (.dct xs) => okP (.int xs.length) S
    | none => .no)
  | .len, [.p (.tuple xs)] => okP (.int xs.length) S
  | .len, [.p (.list xs)] => okP (.int xs.length) S
  | .len, [.mt xs] => okP (.int xs.length) S
  | .len, [.p (.str s)] => if s.length ≤ 1000000 then okP (.int s.length) S else .no
  | .tup, [.p (.tuple xs)] => okP (.tuple xs) S
  | .tup, [.loc i] => (match S[i]? with
    | some (.lst xs) => okP (.tuple xs) S
    | _ => .no)
  | .lst, [.p (.tuple xs)] => newC xs S
  | .lst, [.p (.list xs)] => newC xs S
  | .lst, [.loc i] => (match S[i]? with
    | some (.lst xs) => newC xs S
    | some (.dct kvs) => newC (kvs.map fun kv => pKey kv.1) S
    | none => .no)
  | .int, [.p (.int i)] => okP (.int i) S
  | .int, [.p (.bool b)] => okP (.int (if b then 1 else 0)) S
  | .str, [.p (.int i)] => if i.natAbs.log2 < 1920 then okP (.str (toString i)) S else .no
  | .sum, [.loc i] => (match S[i]? with
    | some (.lst xs) => (match intsP xs with
      | some ns => okP (.int ns.sum) S
      | none => .no)
    | _ => .no)
  | .all, [.loc i] => (match S[i]? with
    | some (.lst xs) => (match blsP xs with
      | some ns => okP (.bool (ns.all id)) S
      | none => .no)
    | _ => .no)
  | .max1, [.loc i] => (match S[i]? with
    | some (.lst xs) => (match intsP xs with
      | some (n :: ns) => okP (.int (maxI n ns)) S
      | _ => .no)
    | _ => .no)
  | .maxd, [.loc i, .p d] => (match S[i]? with
    | some (.lst xs) => (match intsP xs with
      | some (n :: ns) => okP (.int (maxI n ns)) S
      | some [] => okP d S
      | _ => .no)
    | _ => .no)
  | .max2, [.p (.int i), .p (.int j)] => okP (.int (if j > i then j else i)) S
  | .min2, [.p (.int i), .p (.int j)] => okP (.int (if j < i then j else i)) S
  | .sorted, [.loc i] => (match S[i]? with
    | some (.lst xs) => (match intsP xs with
      | some ns => newC ((sortI ns).map .int) S
      | _ => .no)
    | _ => .no)
  | .dict, [.loc i] => (match S[i]? with
    | some (.dct kvs) => .ok (.loc S.length) (S ++ [.dct kvs])
    | _ => .no)
  | _, _ => .no
def mtV (m : Mt) (o : PV) (vs : List PV) (S : Sto) : R PV := match m, o, vs with
  | .append, .loc i, [.p x] => (match S[i]? with
    | some (.lst xs) => if xs.length < 1000000 then .ok (.p .none) (S.set i (.lst (xs ++ [x]))) else .no
    | _ => .no)
  | .pop0, .loc i, [] => (match S[i]? with
    | some (.lst xs) => (match xs[xs.length - 1]? with
      | some x => .ok (.p x) (S.set i (.lst xs.dropLast))
      | none => .no)
    | _ => .no)
  | .reverse, .loc i, [] => (match S[i]? with
    | some (.lst xs) => .ok (.p .none) (S.set i (.lst xs.reverse))
    | _ => .no)
  | .get2, .loc i, [.p k, .p d] => (match S[i]? with
    | some (.dct kvs) => (match keyP k with
      | some k => okP ((luK kvs k).getD d) S
      | none => .no)
    | _ => .no)
  | .join, .p (.str a), [.loc i] => (match S[i]? with
    | some (.lst xs) => (match strsP xs with
      | some ys => if (ys.map (·.length)).sum + ys.length * a.length ≤ 16777216 then okP (.str (Txt.join a ys)) S else .no
      | none => .no)
    | _ => .no)
  | .index, .p (.str a), [.p (.str b)] => (match Builtin.Str.occurrences a b 0 a.length 1 with
    | i :: _ => okP (.int (i : Nat)) S
    | [] => .no)
  | .index, .loc i, [.p x] => (match S[i]? with
    | some (.lst xs) => if (flatP x && xs.all flatP) = true then (match xs.findIdx? fun y => PyData.eqv y x with
      | some j => okP (.int (j : Nat)) S
      | none => .no) else .no
    | _ => .no)
  | .count, .loc i, [.p (.bool b)] => (match S[i]? with
    | some (.lst xs) => (match blsP xs with
      | some bs => okP (.int (bs.count b : Nat)) S
      | none => .no)
    | _ => .no)
  | .insert, .loc i, [.p (.int n), .p x] => (match S[i]? with
    | some (.lst xs) => if xs.length < 1000000 ∧ 0 ≤ n ∧ n < 2 ^ 62 then .ok (.p .none) (S.set i (.lst (xs.take n.toNat ++ [x] ++ xs.drop n.toNat))) else .no
    | _ => .no)
  | _, _, _ => .no
def isStr : PV → Bool
  | .p (.str _) => true
  | _ => false
def isLst : PV → Sto → Bool
  | .loc i, S => (match S[i]? with
    | some (.lst _) => true
    | _ => false)
  | _, _ => false
def isDct : PV → Sto → Bool
  | .loc i, S => (match S[i]? with
    | some (.dct _) => true
    | _ => false)
  | _, _ => false
def mtTy (m : Mt) (x : PV) (S : Sto) : Bool := match m with
  | .get2 => isDct x S
  | .join => isStr x
  | .index => isStr x || isLst x S
  | _ => isLst x S
def isiV (t : Ty) (x : PV) (S : Sto) : R Bool := match t, x with
  | .tup, .p (.tuple _) => .ok true S
  | .tup, .mt _ => .ok true S
  | .lst, .loc i => (match S[i]? with
    | some (.lst _) => .ok true S
    | some (.dct _) => .ok false S
    | none => .no)
  | .lst, .p (.list _) => .ok true S
  | .str, .p (.str _) => .ok true S
  | .int, .p (.int _) => .ok true S
  | .int, .p (.bool _) => .ok true S
  | .bool, .p (.bool _) => .ok true S
  | _, .p _ => .ok false S
  | _, .mt _ => .ok false S
  | _, .exc _ => .no
  | _, .loc i => (match S[i]? with
    | some _ => .ok false S
    | none => .no)
/-- an exception's class asked -/
def isxV (ys ns : List Nat) (x : PV) (S : Sto) : R Bool := match x with
  | .exc c => if ys.contains c = true then .ok true S else if ns.contains c = true then .ok false S else .no
  | _ => .no
/-! o[i] = v -/
def setV (o i v : PV) (S : Sto) : R Unit := match o, i, v with
  | .loc l, .p k, .p x => (match S[l]? with
    | some (.lst xs) => (match k with
      | .int i => (match ixN xs.length i with
        | some j => .ok () (S.set l (.lst (xs.set j x)))
        | none => .no)
      | _ => .no)
    | some (.dct kvs) => (match keyP k with
      | some k => if kvs.length < 1000000 then .ok () (S.set l (.dct (puK kvs k x))) else .no
      | none => .no)
    | none => .no)
  | _, _, _ => .no
/-- a, b = v -/
def tgV (t : Tg) (v : PV) (en : En) : Option En := match t with
  | .nm i => some (en.set i (some v))
  | .tp is => match v with
    | .p (.tuple xs) => if xs.length = is.length then some ((is.zip xs).foldl (fun e q => e.set q.1 (some (.p q.2))) en) else none
    | .mt xs => if xs.length = is.length then some ((is.zip xs).foldl (fun e q => e.set q.1 (some q.2)) en) else none
    | _ => none

/-! ### what is walked: items, and the lists that must stand meanwhile -/
abbrev Wt := List (Nat × List P)
def wtOk : Wt → Sto → Bool
  | [], _ => true
  | (i, xs) :: r, S => (match S[i]? with
    | some (.lst ys) => decide (ys.length = xs.length) && (ys.zip xs).all (fun q => pdB q.1 q.2)
    | _ => false) && wtOk r S
abbrev Its' := List PV × Wt
def valI (x : PV) (S : Sto) : R Its' := match x with
  | .loc i => (match S[i]? with
    | some (.lst xs) => .ok (xs.map .p, [(i, xs)]) S
    | _ => .no)
  | .p (.tuple xs) => .ok (xs.map .p, []) S
  | .p (.list xs) => .ok (xs.map .p, []) S
  | .p (.str s) => .ok (s.cps.toList.map fun c => .p (.str ⟨#[c]⟩), []) S
  | _ => .no
def rngI (a b : Int) (S : Sto) : R Its' := if -(2 ^ 62) ≤ a ∧ a < 2 ^ 62 ∧ -(2 ^ 62) ≤ b ∧ b < 2 ^ 62 then .ok ((List.range (b - a).toNat).map fun (k : Nat) => .p (.int (a + k)), []) S else .no
def revI (x : PV) (S : Sto) : R Its' := match x with
  | .loc i => (match S[i]? with
    | some (.lst xs) => .ok (xs.reverse.map .p, [(i, xs)]) S
    | _ => .no)
  | .p (.tuple xs) => .ok (xs.reverse.map .p, []) S
  | _ => .no
def zipI (x y : PV) (S : Sto) : R Its' := match x, y with
  | .loc i, .loc j => (match S[i]?, S[j]? with
    | some (.lst xs), some (.lst ys) => if xs.length = ys.length then .ok ((xs.zip ys).map fun q => .p (.tuple [q.1, q.2]), [(i, xs), (j, ys)]) S else .no
    | _, _ => .no)
  | _, _ => .no
def intR (x : PV) (S : Sto) (f : Int → R Its') : R Its' := match x with
  | .p (.int i) => f i
  | _ => .no

/-! ### evaluation -/
abbrev Cl := Nat → List PV → Sto → R PV
def compL (el : En → Sto → R PV) (tst : En → Sto → R Bool) (i : Nat) (w : Wt) (D : Nat) : List PV → En → Sto → R Unit
  | [], _, S => if wtOk w S = true then .ok () S else .no
  | x :: r, en, S => if wtOk w S = true then
      match tst (en.set i (some x)) S with
      | .ok true S1 => (match el (en.set i (some x)) S1 with
        | .ok (.p y) S2 => (match S2[D]? with
          | some (.lst acc) => if acc.length < 1000000 then compL el tst i w D r en (S2.set D (.lst (acc ++ [y]))) else .no
          | _ => .no)
        | _ => .no)
      | .ok false S1 => compL el tst i w D r en S1
      | _ => .no
    else .no
def dctV : List Str → List PV → List (Key × P) → Option (List (Key × P))
  | [], [], acc => some acc
  | k :: ks, .p x :: vs, acc => dctV ks vs (puK acc (.inr k) x)
  | _, _, _ => none
mutual
def ev (cl : Cl) : Ex → En → Sto → R PV
  | .v i, en, S => match en[i]? with
    | some (some x) => .ok x S
    | _ => .no
  | .c k, _, S => .ok (.p k) S
  | .bin o a b, en, S => (ev cl a en S).bind fun x S => (ev cl b en S).bind fun y S => binV o x y S
  | .cmp o a b, en, S => (ev cl a en S).bind fun x S => (ev cl b en S).bind fun y S => (cmpV o x y S).bind fun b S => okP (.bool b) S
  | .neg a, en, S => (ev cl a en S).bind fun x S => match x with
    | .p (.int i) => okP (.int (-i)) S
    | _ => .no
  | .and' a b, en, S => (ev cl a en S).bind fun x S => match x with
    | .p (.bool c) => if c = true then ev cl b en S else okP (.bool false) S
    | _ => .no
  | .or' a b, en, S => (ev cl a en S).bind fun x S => match x with
    | .p (.bool c) => if c = true then okP (.bool true) S else ev cl b en S
    | _ => .no
  | .not' a, en, S => (ev cl a en S).bind fun x S => (truV x S).bind fun c S => okP (.bool (!c)) S
  | .ife t a b, en, S => (evT cl t en S).bind fun c S => if c = true then ev cl a en S else ev cl b en S
  | .tup es, en, S => (evs cl es en S).bind fun vs S => tupV vs S
  | .lst es, en, S => (evs cl es en S).bind fun vs S => match allP vs with
    | some xs => newL xs S
    | none => .no
  | .dct ks es, en, S => (evs cl es en (S ++ [.dct []])).bind fun vs S' => match S'[S.length]?, dctV ks vs [] with
    | some (.dct []), some kvs => .ok (.loc S.length) (S'.set S.length (.dct kvs))
    | _, _ => .no
  | .ix a i, en, S => (ev cl a en S).bind fun x S => (ev cl i en S).bind fun y S => ixV x y S
  | .sl a lo hi, en, S => (ev cl a en S).bind fun x S => (evO cl lo en S).bind fun l S => (evO cl hi en S).bind fun h S => slV x l h S
  | .rev a, en, S => (ev cl a en S).bind fun x S => revV x S
  | .call f es, en, S => (evs cl es en S).bind fun vs S => cl f vs S
  | .bi b es, en, S => (evs cl es en S).bind fun vs S => biV b vs S
  | .mth m o es, en, S => (ev cl o en S).bind fun x S => if mtTy m x S = true then (evs cl es en S).bind fun vs S => mtV m x vs S else .no
  | .isi a t, en, S => (ev cl a en S).bind fun x S => (isiV t x S).bind fun b S => okP (.bool b) S
  | .isx a ys ns, en, S => (ev cl a en S).bind fun x S => (isxV ys ns x S).bind fun b S => okP (.bool b) S
  | .comp i it tst e, en, S => (evI cl it en S).bind fun q S =>
    (compL (ev cl e) (evC cl tst) i q.2 S.length q.1 en (S ++ [.lst []])).bind fun _ S' => .ok (.loc S.length) S'
def evs (cl : Cl) : Exs → En → Sto → R (List PV)
  | .nil, _, S => .ok [] S
  | .cons e es, en, S => (ev cl e en S).bind fun x S => (evs cl es en S).bind fun xs S => .ok (x :: xs) S
def evO (cl : Cl) : Oe → En → Sto → R (Option Int)
  | .non, _, S => .ok none S
  | .one e, en, S => (ev cl e en S).bind fun x S => match x with
    | .p (.int i) => .ok (some i) S
    | _ => .no
def evC (cl : Cl) : Oe → En → Sto → R Bool
  | .non, _, S => .ok true S
  | .one e, en, S => evT cl e en S
def evI (cl : Cl) : Ix → En → Sto → R Its'
  | .val e, en, S => (ev cl e en S).bind fun x S => valI x S
  | .rng1 a, en, S => (ev cl a en S).bind fun x S => intR x S fun i => rngI 0 i S
  | .rng2 a b, en, S => (ev cl a en S).bind fun x S => (ev cl b en S).bind fun y S => intR x S fun i => intR y S fun j => rngI i j S
  | .zip a b, en, S => (ev cl a en S).bind fun x S => (ev cl b en S).bind fun y S => zipI x y S
  | .revR a, en, S => (ev cl a en S).bind fun x S => (intR x S fun i => rngI 0 i S).bind fun q S => .ok (q.1.reverse, []) S
  | .revL a, en, S => (ev cl a en S).bind fun x S => revI x S
def evT (cl : Cl) : Ex → En → Sto → R Bool
  | .cmp o a b, en, S => (ev cl a en S).bind fun x S => (ev cl b en S).bind fun y S => cmpV o x y S
  | .and' a b, en, S => (evT cl a en S).bind fun c S => if c = true then evT cl b en S else .ok false S
  | .or' a b, en, S => (evT cl a en S).bind fun c S => if c = true then .ok true S else evT cl b en S
  | .not' a, en, S => (evT cl a en S).bind fun c S => .ok (!c) S
  | .ife _ _ _, _, _ => .no
  | .v i, en, S => match en[i]? with
    | some (some x) => truV x S
    | _ => .no
  | .c k, _, S => truV (.p k) S
  | .bin o a b, en, S => (ev cl a en S).bind fun x S => (ev cl b en S).bind fun y S => (binV o x y S).bind truV
  | .ix a i, en, S => (ev cl a en S).bind fun x S => (ev cl i en S).bind fun y S => (ixV x y S).bind truV
  | .call f es, en, S => (evs cl es en S).bind fun vs S => (cl f vs S).bind truV
  | .bi b es, en, S => (evs cl es en S).bind fun vs S => (biV b vs S).bind truV
  | .mth m o es, en, S => (ev cl o en S).bind fun x S => if mtTy m x S = true then (evs cl es en S).bind fun vs S => (mtV m x vs S).bind truV else .no
  | .isi a t, en, S => (ev cl a en S).bind fun x S => (isiV t x S).bind fun b S => .ok b S
  | .isx a ys ns, en, S => (ev cl a en S).bind fun x S => (isxV ys ns x S).bind fun b S => .ok b S
  | _, _, _ => .no
end
inductive RS where
  | nx (en : En) (S : Sto) | rt (v : PV) (S : Sto) | ct (en : En) (S : Sto) | ex (c : Nat) (en : En) (S : Sto) | no
def R.st {α : Type} (r : R α) (en : En) (f : α → Sto → RS) : RS := match r with
  | .ok a S => f a S
  | .ex c S => .ex c en S
  | .no => .no
def forL (tg : Tg) (w : Wt) (b : En → Sto → RS) : List PV → En → Sto → RS
  | [], en, S => if wtOk w S = true then .nx en S else .no
  | x :: r, en, S => if wtOk w S = true then match tgV tg x en with
      | some en1 => (match b en1 S with
        | .nx en2 S2 => forL tg w b r en2 S2
        | .ct en2 S2 => forL tg w b r en2 S2
        | q => q)
      | none => .no
    else .no
def whileL (t : En → Sto → R Bool) (b : En → Sto → RS) : Nat → En → Sto → RS
  | 0, _, _ => .no
  | n + 1, en, S => (t en S).st en fun c S => if c = true then match b en S with
      | .nx en2 S2 => whileL t b n en2 S2
      | .ct en2 S2 => whileL t b n en2 S2
      | q => q
    else .nx en S
def WL : Nat := 1000000000
/-! an exception among values -/
mutual
def hasX : PV → Bool
  | .exc _ => true
  | .mt xs => hasXs xs
  | _ => false
def hasXs : List PV → Bool
  | [] => false
  | x :: xs => hasX x || hasXs xs
end
def hasXE (en : En) : Bool := en.any fun o => match o with
  | some v => hasX v
  | none => false
/-- a suite may not raise, nor hand on what is handled -/
def noEx (r : RS) : RS := match r with
  | .nx en S => if hasXE en = true then .no else .nx en S
  | .ct en S => if hasXE en = true then .no else .ct en S
  | .rt v S => if hasX v = true then .no else .rt v S
  | _ => .no
/-- behind the suite the name is gone -/
def goneR (i : Nat) (r : RS) : RS := match r with
  | .nx en S => if hasXE (en.set i none) = true then .no else .nx (en.set i none) S
  | .ct en S => if hasXE (en.set i none) = true then .no else .ct (en.set i none) S
  | .rt v S => if hasX v = true then .no else .rt v S
  | _ => .no
mutual
def exs (cl : Cl) : Sm → En → Sto → RS
  | .asg t e, en, S => (ev cl e en S).st en fun x S => match tgV t x en with
    | some en => .nx en S
    | none => .no
  | .setI o i e, en, S => (ev cl e en S).st en fun v S => (ev cl o en S).st en fun o S => (ev cl i en S).st en fun i S => (setV o i v S).st en fun _ S => .nx en S
  | .ex e, en, S => (ev cl e en S).st en fun _ S => .nx en S
  | .ret e, en, S => (ev cl e en S).st en fun x S => .rt x S
  | .retN, _, S => .rt (.p .none) S
  | .ift t a b, en, S => (evT cl t en S).st en fun c S => if c = true then exss cl a en S else exss cl b en S
  | .for' t it b, en, S => (evI cl it en S).st en fun q S => forL t q.2 (exss cl b) q.1 en S
  | .while t b, en, S => whileL (evT cl t) (exss cl b) WL en S
  | .raise c, en, S => .ex c en S
  | .cont, en, S => .ct en S
  | .pass, en, S => .nx en S
  | .tryM b h, en, S => match exss cl b en S with
    | .ex c en S => hds cl h c en S
    | q => q
  | .tryA b cs ms i h, en, S => match exss cl b en S with
    | .ex c en S => if cs.contains c = true then goneR i (exss cl h (en.set i (some (.exc c))) S) else if ms.contains c = true then .ex c en S else .no
    | q => q
def hds (cl : Cl) : Hs → Nat → En → Sto → RS
  | .nil, c, en, S => .ex c en S
  | .cons cs ms b r, c, en, S => if cs.contains c = true then noEx (exss cl b en S) else if ms.contains c = true then hds cl r c en S else .no
def exss (cl : Cl) : Sms → En → Sto → RS
  | .nil, en, S => .nx en S
  | .cons s r, en, S => match exs cl s en S with
    | .nx en S => exss cl r en S
    | q => q
end
/-! ### defs -/
structure FD where
  np : Nat
  ns : Nat
  body : Sms
/-! what a value keeps: the new cells, renamed -/
mutual
def gcV (n : Nat) : PV → List Nat → PV × List Nat
  | .p x, ks => (.p x, ks)
  | .loc k, ks => if k < n then (.loc k, ks) else match ks.idxOf? k with
    | some j => (.loc (n + j), ks)
    | none => (.loc (n + ks.length), ks ++ [k])
  | .mt xs, ks => let q := gcVs n xs ks; (.mt q.1, q.2)
  | .exc c, ks => (.exc c, ks)
def gcVs (n : Nat) : List PV → List Nat → List PV × List Nat
  | [], ks => ([], ks)
  | x :: xs, ks => let q := gcV n x ks; let r := gcVs n xs q.2; (q.1 :: r.1, r.2)
end
def gc (n : Nat) (v : PV) (S : Sto) : R PV := let q := gcV n v []; .ok q.1 (S.take n ++ q.2.filterMap fun k => S[k]?)
def endV (n : Nat) : RS → R PV
  | .rt v S => gc n v S
  | .nx _ S => .ok (.p .none) (S.take n)
  | .ex c _ S => .ex c (S.take n)
  | _ => .no
def callE (T : Nat → Option FD) : Nat → Cl
  | 0, _, _, _ => .no
  | k + 1, f, vs, S => match T f with
    | some d => if vs.length = d.np then endV S.length (exss (callE T k) d.body (vs.map some ++ List.replicate (d.ns - d.np) none) S) else .no
    | none => .no
end Kp

set_option Elab.async false
set_option linter.all false
set_option maxRecDepth 100000
set_option maxHeartbeats 4000000
set_option autoImplicit false
/-! K3a: tuples and texts so many times. -/
namespace Kp
open PySem PySem.Spec PyProof.Rows L2
theorem tuple_mul0 (l : Addr) (items : Array Value) (n : Nat) (dd : Option Addr) (sl : Array (Option Value)) (x : Int) (u : Tok)
    (c0 : (decide (x < -2 ^ 63) || decide (x ≥ 2 ^ 63)) = false) (c1 : (items.isEmpty || x == 1) = false) (c2 : (decide (x ≤ 0) || items.isEmpty) = true) :
    Meets (Builtin.«tuple.__mul__» { pos := [Value.ref l, Value.int x u] }) fun _ R s =>
      s.heap.get? l = some { cls := Value.type "tuple", dict := dd, data := Data.seq items n, slots := sl } ∧
        R (Except.ok (Flow.ret (Value.ref s.heap.objs.size))) { heap := s.heap.push { cls := Value.type "tuple", data := Data.seq #[] }, gens := s.gens, drawn := s.drawn, toks := s.toks, os := s.os } :=
  Meets.of_wp fun prog w A R s h => by
    obtain ⟨hp, g, d, tk, os⟩ := s
    obtain ⟨hl, h⟩ := h
    refine wpAny_ite_false (c := (decide (x < -2 ^ 63) || decide (x ≥ 2 ^ 63)) = true) (decide_eq_false (by rw [c0]; decide)) (wpAny_bind ?_)
    refine wpAny_bind (wpAny_bind (wpAny_load' hl (wpAny_pure (wpAny_pure ?_))))
    refine wpAny_ite_false (decide_eq_false (by rw [c1]; decide)) ?_
    refine wpAny_ite_true (decide_eq_true c2) (wpAny_bind ?_)
    exact wpAny_bind (wpAny_alloc' (wpAny_pure (wpAny_pure ⟨_, rfl, h⟩)))
theorem tuple_mul1 (l : Addr) (items : Array Value) (n : Nat) (dd : Option Addr) (sl : Array (Option Value)) (x : Int) (u : Tok)
    (c0 : (decide (x < -2 ^ 63) || decide (x ≥ 2 ^ 63)) = false) (c1 : (items.isEmpty || x == 1) = true) :
    Meets (Builtin.«tuple.__mul__» { pos := [Value.ref l, Value.int x u] }) fun _ R s =>
      s.heap.get? l = some { cls := Value.type "tuple", dict := dd, data := Data.seq items n, slots := sl } ∧
        R (Except.ok (Flow.ret (Value.ref l))) s :=
  Meets.of_wp fun prog w A R s h => by
    obtain ⟨hp, g, d, tk, os⟩ := s
    obtain ⟨hl, h⟩ := h
    refine wpAny_ite_false (c := (decide (x < -2 ^ 63) || decide (x ≥ 2 ^ 63)) = true) (decide_eq_false (by rw [c0]; decide)) (wpAny_bind ?_)
    refine wpAny_bind (wpAny_bind (wpAny_load' hl (wpAny_pure (wpAny_pure ?_))))
    refine wpAny_ite_true (decide_eq_true c1) (wpAny_bind ?_)
    refine wpAny_bind (wpAny_bind (wpAny_load' hl (wpAny_pure (wpAny_pure ?_))))
    refine wpAny_ite_true (by rfl) ?_
    exact wpAny_bind (wpAny_rule (wpAny_pure ⟨_, rfl, h⟩))

theorem op_repT1 {X : Cx} : OpR X (binaryOp .Mult) (fun x y H Q => ∃ l k xs, x = V.ref l ∧ y = V.int k ∧ SqT X.K H l xs ∧ k = 1 ∧ Q (V.ref l) H) := by
  intro pins s σ H x y v u Q I rx ry h
  obtain ⟨l, k, xs, rfl, rfl, hT, hk, q⟩ := h
  obtain rfl : v = Value.ref l := rx
  obtain ⟨t, rfl⟩ := ry
  obtain ⟨its, r, ⟨w, ho, hc, n, hd⟩, hs⟩ := Inv.tuple I hT
  obtain ⟨cls, dd, data, sl⟩ := w
  dsimp only at hc hd
  subst hc hd
  have c0 : (decide (k < -2 ^ 63) || decide (k ≥ 2 ^ 63)) = false := by rw [hk]; decide
  have c1 : (its.toArray.isEmpty || k == 1) = true := by rw [hk]; simp
  exact wpAny_binaryOp_repeat_ref (by decide) ⟨_, ho, rfl⟩ (fun s' => typeIs_int s' k t) noFill_tuple_mul F.fills_int_mul F.slot_int_rmul repeat_tuple F.slot_int_index.lookup
    (call_meets F.slot_int_rmul (typeIs_int s k t) F.entry_int_rmul (F.args_int_rmul_2 (.int k t) (.ref l)) (int_rmul_tuple k t l its.toArray n dd sl)
      ⟨ho, rfl, ⟨_, ho, rfl⟩, call_meets F.slot_tuple_mul ⟨_, ho, rfl⟩ F.entry_tuple_mul (F.args_tuple_mul_2 (.ref l) (.int k t)) (tuple_mul1 l its.toArray n dd sl k t c0 c1) ⟨ho, ⟨.ref l, H, I, rfl, q⟩⟩⟩)
theorem op_repT0 {X : Cx} : OpR X (binaryOp .Mult) (fun x y H Q => ∃ l k xs, x = V.ref l ∧ y = V.int k ∧ SqT X.K H l xs ∧ xs ≠ [] ∧ k = 0 ∧ ∀ p, H p = none → Q (V.ref p) (upd H p (.tup []))) := by
  intro pins s σ H x y v u Q I rx ry h
  obtain ⟨l, k, xs, rfl, rfl, hT, hne, hk, q⟩ := h
  obtain rfl : v = Value.ref l := rx
  obtain ⟨t, rfl⟩ := ry
  obtain ⟨its, r, ⟨w, ho, hc, n, hd⟩, hs⟩ := Inv.tuple I hT
  obtain ⟨cls, dd, data, sl⟩ := w
  dsimp only at hc hd
  subst hc hd
  have hi : its.toArray.isEmpty = false := by
    cases its with
    | nil => exact absurd (List.eq_nil_of_length_eq_zero ((Vals.length r).trans rfl)) hne
    | cons a b => rfl
  have c0 : (decide (k < -2 ^ 63) || decide (k ≥ 2 ^ 63)) = false := by rw [hk]; decide
  have c1 : (its.toArray.isEmpty || k == 1) = false := by rw [hi, hk]; rfl
  have c2 : (decide (k ≤ 0) || its.toArray.isEmpty) = true := by rw [hk]; rfl
  exact wpAny_binaryOp_repeat_ref (by decide) ⟨_, ho, rfl⟩ (fun s' => typeIs_int s' k t) noFill_tuple_mul F.fills_int_mul F.slot_int_rmul repeat_tuple F.slot_int_index.lookup
    (call_meets F.slot_int_rmul (typeIs_int s k t) F.entry_int_rmul (F.args_int_rmul_2 (.int k t) (.ref l)) (int_rmul_tuple k t l its.toArray n dd sl)
      ⟨ho, rfl, ⟨_, ho, rfl⟩, call_meets F.slot_tuple_mul ⟨_, ho, rfl⟩ F.entry_tuple_mul (F.args_tuple_mul_2 (.ref l) (.int k t)) (tuple_mul0 l its.toArray n dd sl k t c0 c1 c2)
        ⟨ho, ⟨.ref s.heap.objs.size, upd H s.heap.objs.size (.tup []), Inv.laid I (fun b ob q => Heap.get?_push_of_some _ q) (Nat.le_refl _) ⟨Nat.zero_le _, [], .nil, IsTup.new s.heap #[]⟩, rfl, q _ (HOk.fresh I.hok (Nat.le_refl _))⟩⟩⟩)



theorem int_rmul_str (a : Int) (t t2 : Tok) (b : Str) : Meets (Builtin.«int.__rmul__» { pos := [Value.int a t, Value.str b t2] }) fun _ R s => R (Except.ok (Flow.ret Value.notImplemented)) s :=
  Meets.of_wp fun prog w A R s h => by
    unfold Builtin.«int.__rmul__» Builtin.Int.intBinary
    dsimp only
    refine wpAny_bind (wpAny_pure ?_)
    refine wpAny_bind (wpAny_pure ?_)
    refine wpAny_bind (wpAny_pure ?_)
    refine wpAny_bind (wpAny_rule ?_)
    exact wpAny_pure ⟨_, rfl, h⟩
theorem foldl_cat : ∀ (l : List (Array Nat)) (z : Array Nat), List.foldl (fun x1 x2 => x1 ++ x2) z l = z ++ List.foldl (fun x1 x2 => x1 ++ x2) #[] l
  | [], z => by simp
  | a :: l, z => by
    rw [List.foldl_cons, List.foldl_cons, foldl_cat l (z ++ a), foldl_cat l (#[] ++ a)]
    simp [Array.append_assoc]
theorem repS_len (a : Str) : ∀ k : Nat, (repS a k).length = a.length * k
  | 0 => rfl
  | k + 1 => by
    have := repS_len a k
    unfold repS Str.length at *
    dsimp only at *
    rw [List.replicate_succ, List.foldl_cons, foldl_cat, Array.size_append, this]
    simp
    rw [Nat.mul_succ, Nat.add_comm]
theorem repS_0 (a : Str) : repS a 0 = Str.empty := rfl
theorem repS_1 (a : Str) : repS a 1 = a := by
  unfold repS
  simp
theorem repS_e (a : Str) (h : a.length = 0) : ∀ k : Nat, repS a k = a
  | k => by
    have e : a.cps = #[] := Array.eq_empty_of_size_eq_zero h
    have h2 := repS_len a k
    rw [h, Nat.zero_mul] at h2
    have e2 : (repS a k).cps = #[] := Array.eq_empty_of_size_eq_zero h2
    cases a
    dsimp only at e
    subst e
    cases q : repS ⟨#[]⟩ k
    rw [q] at e2
    dsimp only at e2
    rw [e2]
theorem op_repS {X : Cx} : OpR X (binaryOp .Mult) (fun x y H Q => ∃ (a : Str) (k : Int), x = V.str a ∧ y = V.int k ∧ 0 ≤ k ∧ k ≤ 1000000 ∧ a.length * k.toNat ≤ 1000000 ∧ Q (V.str (repS a k.toNat)) H) := by
  intro pins s σ H x y v u Q I rx ry h
  obtain ⟨a, k, rfl, rfl, k0, k1, hz, q⟩ := h
  obtain ⟨t, rfl⟩ := rx
  obtain ⟨t2, rfl⟩ := ry
  have c0 : (decide (k < -2 ^ 63) || decide (k ≥ 2 ^ 63)) = false := by
    rw [decide_eq_false (by omega), decide_eq_false (by omega)]; rfl
  have sl : (1000000 : Nat) ≤ sizeLine := by rw [sizeLine_eq]; decide
  refine wpAny_binaryOp_repeat (by decide) (fun s' => typeIs_str s' a t) (fun s' => typeIs_int s' k t2) noFill_str_mul F.fills_int_mul F.slot_int_rmul repeat_str F.slot_int_index.lookup
    (call_meets F.slot_int_rmul (typeIs_int s k t2) F.entry_int_rmul (F.args_int_rmul_2 (.int k t2) (.str a t)) (int_rmul_str k t2 t a)
      ⟨rfl, call_meets F.slot_str_mul (typeIs_str s a t) F.entry_str_mul (F.args_str_mul_2 (.str a t) (.int k t2))
        (S := fun _ R s' => s' = s ∧ (∀ t', R (Except.ok (Flow.ret (.str (repS a k.toNat) t'))) s ∧ R (Except.ok (Flow.ret (.str (repS a k.toNat) t'))) { s with toks := s.toks + 1 })) ?_ ⟨rfl, fun t' => ⟨?_, ?_⟩⟩⟩)
  · refine Meets.of_wp fun prog w A R s' h => ?_
    obtain ⟨rfl, h⟩ := h
    unfold Builtin.«str.__mul__» Builtin.Str.strRepeat
    dsimp only
    refine wpAny_ite_false (by rfl) ?_
    refine wpAny_bind (wpAny_pure ?_)
    refine wpAny_bind (wpAny_pure ?_)
    refine wpAny_ite_false (decide_eq_false (by rw [c0]; decide)) ?_
    by_cases c1 : k < 1
    · refine wpAny_ite_true (decide_eq_true c1) ?_
      refine wpAny_bind (wpAny_rule ?_)
      have e : k.toNat = 0 := by omega
      rw [e, repS_0] at h
      exact wpAny_bind (wpAny_mkStr (wpAny_pure ⟨_, rfl, (h _).2⟩) (Nat.zero_le _))
    · refine wpAny_ite_false (decide_eq_false c1) ?_
      by_cases c2 : (k == 1 || a.length == 0) = true
      · refine wpAny_ite_true (decide_eq_true c2) ?_
        refine wpAny_bind (wpAny_rule ?_)
        have e : repS a k.toNat = a := by
          rw [Bool.or_eq_true] at c2
          rcases c2 with c2 | c2
          · rw [beq_iff_eq.mp c2]; exact repS_1 a
          · exact repS_e a (beq_iff_eq.mp c2) _
        rw [e] at h
        exact wpAny_bind (wpAny_ite_true (by rfl) (wpAny_pure (wpAny_pure ⟨_, rfl, (h _).1⟩)))
      · refine wpAny_ite_false (decide_eq_false c2) ?_
        have c3 : ¬ (a.length : Int) > (2 ^ 63 - 1) / k := by
          have ha : a.length ≤ 1000000 := by
            have : 1 ≤ k.toNat := by omega
            exact Nat.le_trans (Nat.le_mul_of_pos_right _ this) hz
          have : (1000000 : Int) ≤ (2 ^ 63 - 1) / k := by
            rw [Int.le_ediv_iff_mul_le (by omega)]
            omega
          omega
        refine wpAny_ite_false (decide_eq_false c3) ?_
        have c4 : Builtin.Str.tooLong (a.length * k.toNat) = false := by
          unfold Builtin.Str.tooLong
          exact decide_eq_false (by omega)
        refine wpAny_ite_false (decide_eq_false (by rw [c4]; decide)) ?_
        exact wpAny_bind (wpAny_mkStr (wpAny_pure ⟨_, rfl, (h _).2⟩) (by
          show (repS a k.toNat).length ≤ sizeLine
          rw [repS_len]; omega))
  · exact ⟨.str (repS a k.toNat), H, I, ⟨t', rfl⟩, q⟩
  · exact ⟨.str (repS a k.toNat), H, Inv.tok I _, ⟨t', rfl⟩, q⟩
end Kp

set_option Elab.async false
set_option linter.all false
set_option maxRecDepth 100000
set_option maxHeartbeats 4000000
set_option autoImplicit false
/-! K3: the operations by values are the model's. -/
namespace Kp
open PySem PySem.Spec PyProof.Rows L2
theorem sz {n : Nat} (h : n ≤ 1000000) : n ≤ sizeLine := Nat.le_trans h (by rw [sizeLine_eq]; decide)
theorem szl {n : Nat} (h : n < 1000000) : n < sizeLine := Nat.lt_of_lt_of_le h (by rw [sizeLine_eq]; decide)
section
variable [Xc] {X : Cx} {pins : List (Addr × Obj)} {σ : L2.St} {s : Shared} {W : WX} {CV : Nat → Value} {ρ : Nat → Addr} {S : Sto} {H : Hp} {Q : VK}
theorem G.okp {d : P} {x : V} (g : G X.K W CV σ ρ S H (okP d S) (QV X.K Q)) (sim : Sim X.K ρ S H) (r : RelP X.K H d x) : Q x H := g ρ H Ext.refl sim x (.p r)
theorem G.okb {b : Bool} {Q : Bool → Hp → Prop} (g : G X.K W CV σ ρ S H (R.ok b S) (fun b _ _ H' => Q b H')) (sim : Sim X.K ρ S H) : Q b H := g ρ H Ext.refl sim
theorem G.newC {ds : List P} {xs : List V} {p : Addr} (g : G X.K W CV σ ρ S H (Kp.newC ds S) (QV X.K Q)) (sim : Sim X.K ρ S H) (r : RelPs X.K H ds xs) (hp : H p = none) : Q (.ref p) (upd H p (.lst xs)) := by
  have k := Keep.fresh (HO.lst xs) hp
  obtain ⟨s2, e2⟩ := sim.new (o := .lst xs) (c := .lst ds) hp ⟨xs, upd_same, r.keep k⟩
  have q := g _ _ e2 s2 (.ref p)
  refine q ?_
  have z : RelQ X.K (upd H p (.lst xs)) (put ρ S.length p) (S ++ [Cell.lst ds]).length (.loc S.length) (.ref (put ρ S.length p S.length)) := .loc (by simp)
  rw [put_same] at z
  exact z
theorem G.newL {ds : List P} {xs : List V} (g : G X.K W CV σ ρ S H (Kp.newL ds S) (QV X.K Q)) (sim : Sim X.K ρ S H) (r : RelPs X.K H ds xs) : xs.length ≤ 1000000 ∧ ∀ p, H p = none → Q (.ref p) (upd H p (.lst xs)) := by
  unfold Kp.newL at g
  split at g
  · rename_i h
    exact ⟨by rw [← r.length]; exact h, fun p hp => G.newC g sim r hp⟩
  · exact g.elim
theorem Sim.lst {i : Nat} {ds : List P} (sim : Sim X.K ρ S H) (h : S[i]? = some (.lst ds)) : ∃ xs, H (ρ i) = some (.lst xs) ∧ RelPs X.K H ds xs := sim.cell i _ h
theorem Sim.dct {i : Nat} {ds : List (Key × P)} (sim : Sim X.K ρ S H) (h : S[i]? = some (.dct ds)) : ∃ xs, H (ρ i) = some (.dK xs) ∧ RelKs X.K H ds xs := sim.cell i _ h

theorem ixP_at {α : Type} {xs : List α} {i : Int} : ixP xs i = atI xs i := by
  unfold ixP atI ixN
  by_cases h : 0 ≤ i
  · rw [if_pos h, if_pos h]
    by_cases h2 : i < xs.length
    · rw [if_pos h2]; rfl
    · rw [if_neg h2, List.getElem?_eq_none (by omega)]; rfl
  · rw [if_neg h, if_neg h]
    by_cases h2 : -(xs.length : Int) ≤ i
    · rw [if_pos (by omega), if_pos h2]; rfl
    · rw [if_neg (by omega), if_neg h2]; rfl
theorem RelPs.at {ds : List P} {xs : List V} {i : Int} {d : P} (r : RelPs X.K H ds xs) (h : ixP ds i = some d) : ∃ x, atI xs i = some x ∧ RelP X.K H d x := by
  rw [ixP_at] at h
  unfold atI at h ⊢
  rw [← r.length]
  cases q : ixN ds.length i with
  | none => rw [q] at h; cases h
  | some k =>
    rw [q] at h
    have h' : ds[k]? = some d := h
    obtain ⟨x2, e2, r2⟩ := r.get h'
    exact ⟨x2, e2, r2⟩
theorem RelQs.at {L : Nat} {ds : List PV} {xs : List V} {i : Int} {d : PV} (r : RelQs X.K H ρ L ds xs) (h : ixP ds i = some d) : ∃ x, atI xs i = some x ∧ RelQ X.K H ρ L d x := by
  rw [ixP_at] at h
  unfold atI at h ⊢
  rw [← r.length]
  cases q : ixN ds.length i with
  | none => rw [q] at h; cases h
  | some k =>
    rw [q] at h
    have h' : ds[k]? = some d := h
    obtain ⟨x2, e2, r2⟩ := r.get h'
    exact ⟨x2, e2, r2⟩
theorem cutP_V (xs : List V) (lo hi : Option Int) : cutP xs lo hi = cutV xs lo hi := rfl
theorem RelPs.cut {ds : List P} {xs : List V} (r : RelPs X.K H ds xs) (lo hi : Option Int) : RelPs X.K H (cutP ds lo hi) (cutV xs lo hi) := by
  unfold cutP cutV
  rw [r.length]
  exact (r.drop _).take _
theorem RelPs.nil_iff {ds : List P} {xs : List V} (r : RelPs X.K H ds xs) : xs = [] ↔ ds = [] := by
  cases r <;> simp

def opOf : Bop → Operator
  | .add => .Add | .sub => .Sub | .mul => .Mult | .fdiv => .FloorDiv | .mod => .Mod | .pow => .Pow
theorem CMulB_ok {i j : Int} (h : CMulB i j = true) : CMul i j := by
  unfold CMulB at h
  simp only [Bool.or_eq_true, Bool.and_eq_true, decide_eq_true_eq] at h
  exact h
theorem bin_ok {o : Bop} {px py : PV} {x y : V} {v u : Value} (I : Inv X pins σ H s) (sim : Sim X.K ρ S H) (rx : RelQ X.K H ρ S.length px x) (ry : RelQ X.K H ρ S.length py y) (rv : RelV x v) (ru : RelV y u)
    (g : G X.K W CV σ ρ S H (binV o px py S) (QV X.K Q)) : wpAny (model X.prog X.w) X.A (binaryOp (opOf o) v u) (EP X pins σ Q) X.xe s := by
  unfold binV at g
  split at g
  · cases rx with | p r1 => cases ry with | p r2 =>
    cases r1; cases r2
    exact op_add pins s σ H _ _ v u Q I rv ru ⟨_, _, rfl, rfl, G.okp g sim (.int _)⟩
  · cases rx with | p r1 => cases ry with | p r2 =>
    cases r1; cases r2
    exact op_sub pins s σ H _ _ v u Q I rv ru ⟨_, _, rfl, rfl, G.okp g sim (.int _)⟩
  · cases rx with | p r1 => cases ry with | p r2 =>
    cases r1; cases r2
    split at g
    · rename_i c
      exact op_mul pins s σ H _ _ v u Q I rv ru ⟨_, _, rfl, rfl, CMulB_ok c, G.okp g sim (.int _)⟩
    · exact g.elim
  · cases rx with | p r1 => cases ry with | p r2 =>
    cases r1; cases r2
    split at g
    · rename_i c
      exact op_fdiv pins s σ H _ _ v u Q I rv ru ⟨_, _, rfl, rfl, c, G.okp g sim (.int _)⟩
    · exact g.elim
  · cases rx with | p r1 => cases ry with | p r2 =>
    cases r1; cases r2
    split at g
    · rename_i c
      exact op_mod pins s σ H _ _ v u Q I rv ru ⟨_, _, rfl, rfl, c, G.okp g sim (.int _)⟩
    · exact g.elim
  · cases rx with | p r1 => cases ry with | p r2 =>
    cases r1; cases r2
    split at g
    · rename_i c
      exact op_pow pins s σ H _ _ v u Q I rv ru ⟨_, _, rfl, rfl, c, G.okp g sim (.int _)⟩
    · exact g.elim
  · cases rx with | p r1 => cases ry with | p r2 =>
    cases r1; cases r2
    split at g
    · rename_i c
      exact op_add_str pins s σ H _ _ v u Q I rv ru ⟨_, _, rfl, rfl, sz c, G.okp g sim (.str _)⟩
    · exact g.elim
  · cases rx with | p r1 => cases ry with | p r2 =>
    cases r1 with | tup a1 b1 => cases r2 with | tup a2 b2 =>
    split at g
    · rename_i c
      refine op_catA pins s σ H _ _ v u Q I rv ru ⟨_, _, _, _, rfl, rfl, a1, a2, by rw [← b1.length, ← b2.length]; exact sz c, fun e => ?_, fun e1 e2 => ?_, fun e1 e2 p hp => ?_⟩
      · have z := (RelPs.nil_iff b1).mp e
        subst z
        exact G.okp g sim (.tup a2 (by simpa using b2))
      · have z := (RelPs.nil_iff b2).mp e2
        subst z
        exact G.okp g sim (.tup a1 (by simpa using b1))
      · exact g ρ _ (sim.laid hp).2 (sim.laid hp).1 _ (.p (.tup (SqT.of upd_same) ((b1.append b2).keep (Keep.fresh _ hp))))
    · exact g.elim
  · cases rx with | loc l1 => cases ry with | loc l2 =>
    split at g
    · rename_i h1 h2
      obtain ⟨xs, q1, r1⟩ := sim.lst h1
      obtain ⟨ys, q2, r2⟩ := sim.lst h2
      obtain ⟨z, q⟩ := G.newL g sim (r1.append r2)
      rw [List.length_append] at z
      exact op_cat pins s σ H _ _ v u Q I rv ru ⟨_, _, _, _, rfl, rfl, q1, q2, sz z, q⟩
    · exact g.elim
  · cases rx with | loc l1 => cases ry with | p r2 =>
    cases r2
    split at g
    · rename_i h1
      obtain ⟨xs, q1, r1⟩ := sim.lst h1
      split at g
      · rename_i c
        obtain ⟨z, q⟩ := G.newL g sim (r1.rep _)
        exact op_rep pins s σ H _ _ v u Q I rv ru ⟨_, _, _, rfl, rfl, q1, c.1, c.2.1, by rw [← r1.length]; exact sz c.2.2, q⟩
      · exact g.elim
    · exact g.elim
  · cases rx with | p r1 => cases ry with | p r2 =>
    cases r1; cases r2
    split at g
    · rename_i c
      exact op_repS pins s σ H _ _ v u Q I rv ru ⟨_, _, rfl, rfl, c.1, c.2.1, c.2.2, G.okp g sim (.str _)⟩
    · exact g.elim
  · cases rx with | p r1 => cases ry with | p r2 =>
    cases r1 with | tup a b =>
    cases r2
    split at g
    · rename_i c
      rename_i xs k _ _
      obtain ⟨c0, c1, c2, c3⟩ := c
      have ne : ∀ zs : List V, xs.length = zs.length → zs ≠ [] := fun zs e z => by
        subst z
        have : xs = [] := List.eq_nil_of_length_eq_zero e
        subst this
        cases c3
      by_cases k0 : k = 0
      · subst k0
        refine op_repT0 pins s σ H _ _ v u Q I rv ru ⟨_, _, _, rfl, rfl, a, ne _ b.length, rfl, fun p hp => ?_⟩
        exact g ρ _ (sim.laid hp).2 (sim.laid hp).1 _ (.p (.tup (SqT.of upd_same) .nil))
      · by_cases k1 : k = 1
        · subst k1
          refine op_repT1 pins s σ H _ _ v u Q I rv ru ⟨_, _, _, rfl, rfl, a, rfl, ?_⟩
          exact G.okp g sim (.tup a (by simpa using b))
        · refine op_repT pins s σ H _ _ v u Q I rv ru ⟨_, _, _, rfl, rfl, a, ne _ b.length, by omega, c1, by rw [← b.length]; exact c2, fun p hp => ?_⟩
          exact g ρ _ (sim.laid hp).2 (sim.laid hp).1 _ (.p (.tup (SqT.of upd_same) ((b.rep _).keep (Keep.fresh _ hp))))
    · exact g.elim
  · exact g.elim
/-! ### == -/
mutual
theorem dat_dp (sim : Sim X.K ρ S H) : ∀ (px : PV) {x : V} {d : P}, RelQ X.K H ρ S.length px x → datV S px = some d → Dp X.K H x d
  | .p z, x, d, r, h => by
    cases r with
    | p r => rw [datV] at h; cases h; exact r.dp
  | .loc i, x, d, r, h => by
    cases r with
    | loc l =>
      rw [datV] at h
      split at h
      · rename_i e
        cases h
        obtain ⟨xs, q1, r1⟩ := sim.lst e
        exact .lst (SqL.of q1) (RelPs.dp _ _ r1)
      · cases h
  | .mt vs, x, d, r, h => by
    cases r with
    | mt a b =>
      rw [datV] at h
      split at h
      · rename_i xs e
        cases h
        exact .tup a (dat_dps sim vs b e)
      · cases h
  | .exc _, x, d, r, h => by rw [datV] at h; cases h
theorem dat_dps (sim : Sim X.K ρ S H) : ∀ (vs : List PV) {xs : List V} {ds : List P}, RelQs X.K H ρ S.length vs xs → datVs S vs = some ds → DpAll X.K H xs ds
  | [], xs, ds, r, h => by
    cases r
    rw [datVs] at h
    cases h
    exact .nil
  | v :: vs, xs, ds, r, h => by
    cases r with
    | cons a b =>
      rw [datVs] at h
      split at h
      · rename_i y ys e1 e2
        cases h
        exact .cons (dat_dp sim v a e1) (dat_dps sim vs b e2)
      · cases h
end
theorem luk_rel {k : Key} : ∀ {kvs : List (Key × P)} {ws : List (Key × V)}, RelKs X.K H kvs ws → (luK kvs k = none ∧ valV ws k = none) ∨ ∃ d x, luK kvs k = some d ∧ valV ws k = some x ∧ RelP X.K H d x
  | [], _, r => by cases r; exact .inl ⟨rfl, rfl⟩
  | (k1, d) :: kvs, _, r => by
    cases r with
    | @cons _ b _ _ a r =>
      obtain ⟨k2, x⟩ := b
      obtain ⟨e, rx⟩ := a
      dsimp only at e rx
      subst e
      by_cases h : k1 = k
      · subst h
        exact .inr ⟨d, x, by simp [luK, List.find?_cons], by simp [valV, List.find?_cons], rx⟩
      · have e1 : luK ((k1, d) :: kvs) k = luK kvs k := by simp [luK, List.find?_cons, h]
        rw [e1, valV_neg (p := (k1, x)) h]
        exact luk_rel r
theorem luk_mem {k : Key} : ∀ {kvs : List (Key × P)} {d : P}, luK kvs k = some d → (k, d) ∈ kvs
  | [], _, h => by cases h
  | (k1, x) :: kvs, d, h => by
    unfold luK at h
    rw [List.find?_cons] at h
    split at h
    · rename_i e
      cases h
      have := of_decide_eq_true e
      dsimp only at this
      subst this
      exact List.mem_cons_self
    · exact List.mem_cons_of_mem _ (luk_mem h)
/-! dicts compared -/
theorem dcv_some {px : PV} {x : V} {kvs : List (Key × P)} (sim : Sim X.K ρ S H) (r : RelQ X.K H ρ S.length px x) (h : dcvV S px = some kvs) : ∃ a ws, x = .ref a ∧ H a = some (.dK ws) ∧ RelKs X.K H kvs ws := by
  cases r with
  | p r => cases h
  | @loc i l =>
    unfold dcvV at h
    dsimp only at h
    split at h
    · rename_i e
      cases h
      obtain ⟨ws, q1, r1⟩ := sim.dct e
      exact ⟨_, ws, rfl, q1, r1⟩
    · cases h
  | mt a b => cases h
  | exc _ => cases h
theorem hits_dat {A : Around} (I : Inv X pins σ H s) (hu : A.units + 60 < cLine) {kb : List (Key × P)} {wb : List (Key × V)} {vb : List (Key × Value)} (rkb : RelKs X.K H kb wb) (rb : KV wb vb) (sb : dshB kb = true) :
    ∀ {ka : List (Key × P)} {wa : List (Key × V)} {va : List (Key × Value)}, RelKs X.K H ka wa → KV wa va → dshB ka = true → PySem.W.KeqHits A s vb va (ka.all fun p => match luK kb p.1 with
      | some y => PyData.eqv p.2 y
      | none => false)
  | [], _, _, rk, ra, _ => by
    cases rk
    cases ra
    exact .nil
  | (k, d) :: ka, _, _, rk, ra, sa => by
    cases rk with | @cons _ b _ wa r1 r2 =>
    cases ra with | @cons _ c _ va q1 q2 =>
    obtain ⟨k2, x⟩ := b
    obtain ⟨k3, v⟩ := c
    obtain ⟨e1, rx⟩ := r1
    obtain ⟨e2, rv⟩ := q1
    dsimp only at e1 rx e2 rv
    subst e1 e2
    simp only [dshB, List.all_cons, Bool.and_eq_true, decide_eq_true_eq] at sa
    obtain ⟨⟨c1, c2⟩, sa2⟩ := sa
    have ih := hits_dat I hu rkb rb sb r2 q2 (by simpa [dshB] using sa2)
    rw [List.all_cons]
    have rr := rb.val k
    rcases luk_rel (k := k) rkb with ⟨a1, a2⟩ | ⟨d2, y, a1, a2, ry⟩
    · rw [a2] at rr
      dsimp only
      rw [a1]
      cases hq : valueAt vb k with
      | none => exact .miss hq
      | some z => rw [hq] at rr; exact rr.elim
    · rw [a2] at rr
      obtain ⟨z, hz, rz⟩ := rr.some_of
      dsimp only
      rw [a1]
      dsimp only
      obtain ⟨as, h1⟩ := Dp.reads I d x v rx.dp rv
      obtain ⟨bs, h2⟩ := Dp.reads I d2 y z ry.dp rz
      have hd2 : d2.canLay0 = true := by
        have hm : (k, d2) ∈ kb := luk_mem a1
        have := List.all_eq_true.mp sb _ hm
        simp only [Bool.and_eq_true] at this
        exact this.1
      have hm : min d.depth d2.depth ≤ d.depth := Nat.min_le_left _ _
      exact .hit hz (SeqAt.eqAt_reads d d2 A s v z as bs h1 h2 c1 hd2 (by omega)) ih
theorem dq_ok {px py : PV} {x y : V} {v u : Value} {Q : Bool → Hp → Prop} {neg : Bool} (hu : X.A.units + 64 < cLine) (I : Inv X pins σ H s) (sim : Sim X.K ρ S H) (rx : RelQ X.K H ρ S.length px x) (ry : RelQ X.K H ρ S.length py y) (rv : RelV x v) (ru : RelV y u)
    (g : G X.K W CV σ ρ S H (dqV px py S) (fun b _ _ H' => Q b H')) : wpAny (model X.prog X.w) X.A (compareOp (match neg with | true => .NotEq | false => .Eq) v u) (EP X pins σ fun z H1 => ∃ k, z = .bl (match neg with | true => !k | false => k) ∧ Q k H1) X.xe s := by
  unfold dqV at g
  split at g
  · rename_i ka kb h1 h2
    obtain ⟨a, wa, rfl, ea, ra⟩ := dcv_some sim rx h1
    obtain ⟨b, wb, rfl, eb, rb⟩ := dcv_some sim ry h2
    obtain rfl : v = Value.ref a := rv
    obtain rfl : u = Value.ref b := ru
    split at g
    · rename_i c
      rw [Bool.and_eq_true] at c
      obtain ⟨_, ya, va, qa, da⟩ := (show ObjOk X.prog X.w H s.heap a (.dK wa) from I.hok a _ ea)
      obtain ⟨_, yb, vb, qb, db⟩ := (show ObjOk X.prog X.w H s.heap b (.dK wb) from I.hok b _ eb)
      have hits := hits_dat (A := X.A.in1) I (by show X.A.units + 1 + 60 < cLine; omega) rb qb c.2 ra qa c.1
      have la : ka.length = va.length := (Paired.length ra).trans (Paired.length qa)
      have lb : kb.length = vb.length := (Paired.length rb).trans (Paired.length qb)
      have q := G.okb g sim
      unfold dqP at q
      rw [la, lb] at q
      cases neg with
      | false => exact PySem.W.keq_eq (knd := mixKind X.prog X.w) ya yb da db (by omega) (fun _ => hits) ⟨.bl _, H, I, rfl, _, rfl, q⟩
      | true => exact PySem.W.keq_ne (knd := mixKind X.prog X.w) ya yb da db (by omega) (fun _ => hits) ⟨.bl _, H, I, rfl, _, rfl, q⟩
    · exact g.elim
  · exact g.elim
theorem eq_ok {px py : PV} {x y : V} {v u : Value} {Q : Bool → Hp → Prop} (hu : X.A.units + 64 < cLine) (I : Inv X pins σ H s) (sim : Sim X.K ρ S H) (rx : RelQ X.K H ρ S.length px x) (ry : RelQ X.K H ρ S.length py y) (rv : RelV x v) (ru : RelV y u)
    (g : G X.K W CV σ ρ S H (eqV' px py S) (fun b _ _ H' => Q b H')) : wpAny (model X.prog X.w) X.A (compareOp .Eq v u) (EP X pins σ fun z H1 => ∃ k, z = .bl k ∧ Q k H1) X.xe s := by
  unfold eqV' at g
  split at g
  · cases rx with | p r1 => cases ry with | p r2 =>
    cases r1; cases r2
    refine op_eq pins s σ H _ _ v u _ I rv ru ⟨rfl, _, rfl, ?_⟩
    have := G.okb g sim
    simpa using this
  · cases rx with | p r1 => cases ry with | p r2 =>
    cases r1; cases r2
    refine op_eq pins s σ H _ _ v u _ I rv ru ⟨rfl, _, rfl, ?_⟩
    have := G.okb g sim
    simpa using this
  · split at g
    · rename_i h1 h2
      split at g
      · rename_i c
        rw [Bool.and_eq_true] at c
        exact op_eqD hu pins s σ H _ _ v u _ I rv ru ⟨_, _, dat_dp sim _ rx h1, dat_dp sim _ ry h2, c.1, c.2, _, rfl, G.okb g sim⟩
      · exact g.elim
    · exact dq_ok (neg := false) hu I sim rx ry rv ru g
theorem ne_ok {px py : PV} {x y : V} {v u : Value} {Q : Bool → Hp → Prop} (hu : X.A.units + 64 < cLine) (I : Inv X pins σ H s) (sim : Sim X.K ρ S H) (rx : RelQ X.K H ρ S.length px x) (ry : RelQ X.K H ρ S.length py y) (rv : RelV x v) (ru : RelV y u)
    (g : G X.K W CV σ ρ S H ((eqV' px py S).bind fun b S => .ok (!b) S) (fun b _ _ H' => Q b H')) : wpAny (model X.prog X.w) X.A (compareOp .NotEq v u) (EP X pins σ fun z H1 => ∃ k, z = .bl k ∧ Q k H1) X.xe s := by
  unfold eqV' at g
  split at g
  · cases rx with | p r1 => cases ry with | p r2 =>
    cases r1; cases r2
    refine op_ne pins s σ H _ _ v u _ I rv ru ⟨rfl, _, rfl, ?_⟩
    have := G.okb g sim
    simpa using this
  · cases rx with | p r1 => cases ry with | p r2 =>
    cases r1; cases r2
    refine op_ne pins s σ H _ _ v u _ I rv ru ⟨rfl, _, rfl, ?_⟩
    have := G.okb g sim
    simpa using this
  · split at g
    · rename_i h1 h2
      split at g
      · rename_i c
        rw [Bool.and_eq_true] at c
        exact op_neD hu pins s σ H _ _ v u _ I rv ru ⟨_, _, dat_dp sim _ rx h1, dat_dp sim _ ry h2, c.1, c.2, _, rfl, G.okb g sim⟩
      · exact g.elim
    · exact (wpAny_mono (dq_ok (neg := true) (Q := fun k H' => Q (!k) H') hu I sim rx ry rv ru ((G.bind g).imp fun b ρ2 S2 H2 e2 s2 g2 => G.okb g2 s2)) (fun z s1 h => by
        obtain ⟨x1, H1, I1, r1, k, e, q⟩ := h
        exact ⟨x1, H1, I1, r1, !k, e, q⟩) fun _ _ h => h)
/-! ### in -/
theorem flat_rel {d : P} {x : V} (r : RelP X.K H d x) (f : flatP d = true) : flatV x = true := by
  cases r <;> first | rfl | cases f
theorem flat_rels : ∀ {ds : List P} {xs : List V}, RelPs X.K H ds xs → ds.all flatP = true → xs.all flatV = true
  | [], _, r, _ => by cases r; rfl
  | _ :: _, _, r, f => by
    cases r with
    | cons a b =>
      rw [List.all_cons, Bool.and_eq_true] at f
      rw [List.all_cons, flat_rel a f.1, flat_rels b f.2]; rfl
theorem eqv_flat {d e : P} {x y : V} (r : RelP X.K H d x) (q : RelP X.K H e y) (f : flatP d = true) (f2 : flatP e = true) : PyData.eqv d e = eqV x y := by
  cases r <;> cases q <;> first | rfl | cases f | cases f2
theorem any_flat {d : P} {x : V} (r : RelP X.K H d x) (f : flatP d = true) : ∀ {ds : List P} {xs : List V}, RelPs X.K H ds xs → ds.all flatP = true → (ds.any fun y => PyData.eqv y d) = inV x xs
  | [], _, q, _ => by cases q; rfl
  | _ :: _, _, q, f2 => by
    cases q with
    | cons a b =>
      rw [List.all_cons, Bool.and_eq_true] at f2
      unfold inV
      rw [List.any_cons, List.any_cons, eqv_flat a r f2.1 f, any_flat r f b f2.2]; rfl
theorem keyP_rel {d : P} {x : V} {k : Key} (r : RelP X.K H d x) (h : keyP d = some k) : x = kV k := by
  cases r <;> simp [keyP] at h <;> subst h <;> rfl
theorem lu_rel {k : Key} : ∀ {kvs : List (Key × P)} {ws : List (Key × V)}, RelKs X.K H kvs ws → (luK kvs k = none ∧ valV ws k = none) ∨ ∃ d x, luK kvs k = some d ∧ valV ws k = some x ∧ RelP X.K H d x
  | [], _, r => by cases r; exact .inl ⟨rfl, rfl⟩
  | (k1, d) :: kvs, _, r => by
    cases r with
    | @cons _ b _ _ a r =>
      obtain ⟨k2, x⟩ := b
      obtain ⟨e, rx⟩ := a
      dsimp only at e rx
      subst e
      by_cases h : k1 = k
      · subst h
        exact .inr ⟨d, x, by simp [luK, List.find?_cons], by simp [valV, List.find?_cons], rx⟩
      · have e1 : luK ((k1, d) :: kvs) k = luK kvs k := by simp [luK, List.find?_cons, h]
        rw [e1, valV_neg (p := (k1, x)) h]
        exact lu_rel r
theorem lu_some {k : Key} {kvs : List (Key × P)} {ws : List (Key × V)} (r : RelKs X.K H kvs ws) : (luK kvs k).isSome = (valV ws k).isSome := by
  rcases lu_rel (k := k) r with ⟨a, b⟩ | ⟨d, x, a, b, _⟩ <;> rw [a, b] <;> rfl
theorem str1 {a : Str} (h : a.length = 1) : a = ⟨#[a.cps.getD 0 0]⟩ := by
  obtain ⟨c⟩ := a
  have h' : c.size = 1 := h
  obtain ⟨l⟩ := c
  match l, h' with
  | [y], _ => rfl
/-- one branch a way: rules for In, NotIn by a flag -/
def inOp : Bool → CmpOp
  | false => .In
  | true => .NotIn
theorem in_ok {neg : Bool} {px py : PV} {x y : V} {v u : Value} {Q : Bool → Hp → Prop} (hu : X.A.units + 1 < cLine) (I : Inv X pins σ H s) (sim : Sim X.K ρ S H) (rx : RelQ X.K H ρ S.length px x) (ry : RelQ X.K H ρ S.length py y) (rv : RelV x v) (ru : RelV y u)
    (g : G X.K W CV σ ρ S H (inV' px py S) (fun b _ _ H' => Q b H')) : wpAny (model X.prog X.w) X.A (compareOp (inOp neg) v u) (EP X pins σ fun z H1 => ∃ k, z = .bl (if neg then !k else k) ∧ Q k H1) X.xe s := by
  have seq : ∀ {d : P} {a : Addr} {ds : List P} {xs : List V}, RelP X.K H d x → y = .ref a → (SqL X.K H a xs ∨ SqT X.K H a xs) → RelPs X.K H ds xs → flatP d = true → ds.all flatP = true → Q (ds.any fun y => PyData.eqv y d) H →
      wpAny (model X.prog X.w) X.A (compareOp (inOp neg) v u) (EP X pins σ fun z H1 => ∃ k, z = .bl (if neg then !k else k) ∧ Q k H1) X.xe s := by
    intro d a ds xs rd ey hs rs f1 f2 q
    rw [any_flat rd f1 rs f2] at q
    cases neg with
    | false => exact op_in_seq pins s σ H _ _ v u _ I rv ru ⟨a, xs, ey, hs, flat_rel rd f1, flat_rels rs f2, _, rfl, q⟩
    | true => exact op_notIn_seq pins s σ H _ _ v u _ I rv ru ⟨a, xs, ey, hs, flat_rel rd f1, flat_rels rs f2, _, rfl, q⟩
  unfold inV' at g
  split at g
  · cases rx with | p r1 => cases ry with | p r2 =>
    cases r1; cases r2
    split at g
    · rename_i h
      have q := G.okb g sim
      cases neg with
      | false => exact op_in_sign pins s σ H _ _ v u _ I rv ru ⟨_, _, congrArg V.str (str1 h), rfl, _, rfl, q⟩
      | true => exact op_notIn_sign pins s σ H _ _ v u _ I rv ru ⟨_, _, congrArg V.str (str1 h), rfl, _, rfl, q⟩
    · exact g.elim
  · cases rx with | p r1 => cases ry with | loc l2 =>
    split at g
    · rename_i h
      obtain ⟨ws, q1, rw1⟩ := sim.dct h
      split at g
      · rename_i k hk
        have ex := keyP_rel r1 hk
        have q := G.okb g sim
        rw [lu_some rw1] at q
        have dg := DGet.k (k := k) q1
        cases ru
        cases neg with
        | false => exact d_in hu I (ex ▸ dg) rv fun s' I' => ⟨.bl _, H, I', rfl, _, rfl, q⟩
        | true => exact d_notIn hu I (ex ▸ dg) rv fun s' I' => ⟨.bl _, H, I', rfl, _, rfl, q⟩
      · exact g.elim
    · rename_i h
      split at g
      · rename_i c
        rw [Bool.and_eq_true] at c
        obtain ⟨xs, q1, rs⟩ := sim.lst h
        exact seq r1 rfl (.inl (SqL.of q1)) rs c.1 c.2 (G.okb g sim)
      · exact g.elim
    · exact g.elim
  · cases rx with | p r1 => cases ry with | p r2 =>
    cases r2 with | tup a2 b2 =>
    split at g
    · rename_i c
      rw [Bool.and_eq_true] at c
      exact seq r1 rfl (.inr a2) b2 c.1 c.2 (G.okb g sim)
    · exact g.elim
  · exact g.elim
def copOf : Cop → CmpOp
  | .eq => .Eq | .ne => .NotEq | .lt => .Lt | .le => .LtE | .gt => .Gt | .ge => .GtE | .is => .Is | .isn => .IsNot | .inn => .In | .nin => .NotIn
theorem ep_imp {Q Q' : VK} {u : Value} {s' : Shared} (h : EP X pins σ Q u s') (f : ∀ x H, Q x H → Q' x H) : EP X pins σ Q' u s' := by
  obtain ⟨v, H', I', r, q⟩ := h
  exact ⟨v, H', I', r, f _ _ q⟩
theorem nonP_rel {d : P} {x : V} (r : RelP X.K H d x) : nonP d = decide (x = .non) := by
  cases r <;> rfl
theorem loc_ref {i : Nat} {x : V} (r : RelQ X.K H ρ S.length (.loc i) x) : x = .ref (ρ i) := by cases r; rfl
theorem cmp_ok {o : Cop} {px py : PV} {x y : V} {v u : Value} {Q : Bool → Hp → Prop} (hu : X.A.units + 64 < cLine) (I : Inv X pins σ H s) (sim : Sim X.K ρ S H) (rx : RelQ X.K H ρ S.length px x) (ry : RelQ X.K H ρ S.length py y) (rv : RelV x v) (ru : RelV y u)
    (g : G X.K W CV σ ρ S H (cmpV o px py S) (fun b _ _ H' => Q b H')) : wpAny (model X.prog X.w) X.A (compareOp (copOf o) v u) (EP X pins σ fun z H1 => ∃ k, z = .bl k ∧ Q k H1) X.xe s := by
  have hu1 : X.A.units + 1 < cLine := by omega
  cases o with
  | eq => exact eq_ok hu I sim rx ry rv ru g
  | ne => exact ne_ok hu I sim rx ry rv ru g
  | lt =>
    unfold cmpV at g
    dsimp only at g
    split at g
    · cases rx with | p r1 => cases ry with | p r2 =>
      cases r1; cases r2
      exact op_lt pins s σ H _ _ v u _ I rv ru ⟨_, _, rfl, rfl, _, rfl, G.okb g sim⟩
    · exact g.elim
  | le =>
    unfold cmpV at g
    dsimp only at g
    split at g
    · cases rx with | p r1 => cases ry with | p r2 =>
      cases r1; cases r2
      exact op_le pins s σ H _ _ v u _ I rv ru ⟨_, _, rfl, rfl, _, rfl, G.okb g sim⟩
    · exact g.elim
  | gt =>
    unfold cmpV at g
    dsimp only at g
    split at g
    · cases rx with | p r1 => cases ry with | p r2 =>
      cases r1; cases r2
      exact op_gt pins s σ H _ _ v u _ I rv ru ⟨_, _, rfl, rfl, _, rfl, G.okb g sim⟩
    · exact g.elim
  | ge =>
    unfold cmpV at g
    dsimp only at g
    split at g
    · cases rx with | p r1 => cases ry with | p r2 =>
      cases r1; cases r2
      exact op_ge pins s σ H _ _ v u _ I rv ru ⟨_, _, rfl, rfl, _, rfl, G.okb g sim⟩
    · exact g.elim
  | is =>
    unfold cmpV at g
    dsimp only at g
    split at g
    · cases rx with | p r1 => cases ry with | p r2 =>
      cases r2
      have q := G.okb g sim
      rw [nonP_rel r1] at q
      exact op_isN pins s σ H _ _ v u _ I rv ru ⟨rfl, _, rfl, q⟩
    · cases ry with | p r2 =>
      cases r2
      cases rx with | loc l =>
      exact op_isN pins s σ H _ _ v u _ I rv ru ⟨rfl, _, rfl, G.okb g sim⟩
    · cases ry with | p r2 =>
      cases r2
      cases rx with | mt a b =>
      exact op_isN pins s σ H _ _ v u _ I rv ru ⟨rfl, _, rfl, G.okb g sim⟩
    · cases rx with | p r1 => cases ry with | p r2 =>
      cases r1; cases r2
      exact op_isBl pins s σ H _ _ v u _ I rv ru ⟨_, _, rfl, rfl, _, rfl, G.okb g sim⟩
    · exact g.elim
  | isn =>
    unfold cmpV at g
    dsimp only at g
    split at g
    · cases rx with | p r1 => cases ry with | p r2 =>
      cases r2
      have q := G.okb g sim
      rw [nonP_rel r1] at q
      exact op_notN pins s σ H _ _ v u _ I rv ru ⟨rfl, _, rfl, q⟩
    · cases ry with | p r2 =>
      cases r2
      cases rx with | loc l =>
      exact op_notN pins s σ H _ _ v u _ I rv ru ⟨rfl, _, rfl, G.okb g sim⟩
    · cases ry with | p r2 =>
      cases r2
      cases rx with | mt a b =>
      exact op_notN pins s σ H _ _ v u _ I rv ru ⟨rfl, _, rfl, G.okb g sim⟩
    · cases rx with | p r1 => cases ry with | p r2 =>
      cases r1; cases r2
      exact op_notBl pins s σ H _ _ v u _ I rv ru ⟨_, _, rfl, rfl, _, rfl, G.okb g sim⟩
    · exact g.elim
  | inn => exact thn (in_ok (neg := false) hu1 I sim rx ry rv ru g) fun u s' h => ep_imp h fun x H ⟨k, e, q⟩ => ⟨k, e, q⟩
  | nin =>
    have g' := G.bind g
    refine thn (in_ok (Q := fun b H => Q (!b) H) (neg := true) hu1 I sim rx ry rv ru (g'.imp fun b ρ' S' H' e sm q => ?_)) fun u s' h => ep_imp h fun x H ⟨k, e, q⟩ => ⟨!k, e, q⟩
    exact q ρ' H' Ext.refl sm
end
end Kp

set_option Elab.async false
set_option linter.all false
set_option maxRecDepth 100000
set_option maxHeartbeats 4000000
set_option autoImplicit false
/-! K4: truth, subscripts, slices, builtins, methods, stores. -/
namespace Kp
open PySem PySem.Spec PyProof.Rows L2
section
variable [Xc] {X : Cx} {pins : List (Addr × Obj)} {σ : L2.St} {s : Shared} {W : WX} {CV : Nat → Value} {ρ : Nat → Addr} {S : Sto} {H : Hp} {Q : VK}
theorem RelPs.empty {ds : List P} {xs : List V} (r : RelPs X.K H ds xs) : (!ds.isEmpty) = !xs.isEmpty := by cases r <;> rfl
theorem RelKs.empty {ds : List (Key × P)} {xs : List (Key × V)} (r : RelKs X.K H ds xs) : (!ds.isEmpty) = !xs.isEmpty := by cases r <;> rfl
theorem RelKs.length : ∀ {ds : List (Key × P)} {xs : List (Key × V)}, RelKs X.K H ds xs → ds.length = xs.length
  | _, _, .nil => rfl
  | _, _, .cons _ t => by simp [RelKs.length t]
theorem tru_okV {px : PV} {x : V} {Q : Bool → Hp → Prop} (sim : Sim X.K ρ S H) (rx : RelQ X.K H ρ S.length px x) (g : G X.K W CV σ ρ S H (truV px S) (fun b _ _ H' => Q b H')) : ∃ k, TruV X.K x H k ∧ Q k H := by
  unfold truV at g
  split at g
  · cases rx with | p r =>
    cases r
    exact ⟨_, rfl, G.okb g sim⟩
  · cases rx with | p r =>
    cases r
    exact ⟨_, rfl, G.okb g sim⟩
  · cases rx with | p r =>
    cases r
    exact ⟨_, rfl, G.okb g sim⟩
  · cases rx with | p r =>
    cases r
    split at g
    · rename_i z c
      have q := G.okb g sim
      refine ⟨_, ⟨sz c, rfl⟩, ?_⟩
      have e : ((z.length : Int) != 0) = (z.length != 0) := by
        have : ((z.length : Int) == 0) = (z.length == 0) := by rw [Bool.eq_iff_iff, beq_iff_eq, beq_iff_eq]; omega
        unfold bne; rw [this]
      rw [e]; exact q
    · exact g.elim
  · cases rx with | p r =>
    cases r with | tup a b =>
    have q := G.okb g sim
    rw [RelPs.empty b] at q
    exact ⟨_, .inr (.inl ⟨_, a, rfl⟩), q⟩
  · cases rx with | loc l =>
    split at g
    · rename_i h
      obtain ⟨xs, q1, r1⟩ := sim.lst h
      have q := G.okb g sim
      rw [RelPs.empty r1] at q
      exact ⟨_, .inl ⟨_, SqL.of q1, rfl⟩, q⟩
    · rename_i h
      obtain ⟨xs, q1, r1⟩ := sim.dct h
      have q := G.okb g sim
      rw [RelKs.empty r1] at q
      exact ⟨_, .inr (.inr ⟨_, q1, rfl⟩), q⟩
    · exact g.elim
  · exact g.elim
/-- a[i], a no dict -/
theorem ix_ok {px pi : PV} {x i : V} (sim : Sim X.K ρ S H) (rx : RelQ X.K H ρ S.length px x) (ri : RelQ X.K H ρ S.length pi i) (nd : ∀ l kvs, px = .loc l → S[l]? ≠ some (.dct kvs))
    (g : G X.K W CV σ ρ S H (ixV px pi S) (QV X.K Q)) : rIx X.K x i H Q := by
  unfold ixV at g
  split at g
  · cases rx with | p r => cases ri with | p q =>
    cases q
    cases r with | tup a b =>
    split at g
    · rename_i h
      obtain ⟨v, e, rv⟩ := b.at h
      exact .inr (.inl ⟨_, _, _, _, rfl, rfl, a, e, G.okp g sim rv⟩)
    · exact g.elim
  · cases rx with | p r => cases ri with | p q =>
    cases q
    cases r with | lst a b =>
    split at g
    · rename_i h
      obtain ⟨v, e, rv⟩ := b.at h
      exact .inl ⟨_, _, _, _, rfl, rfl, a.sq, e, G.okp g sim rv⟩
    · exact g.elim
  · cases rx with | mt a b => cases ri with | p q =>
    cases q
    split at g
    · rename_i h
      obtain ⟨v, e, rv⟩ := RelQs.at b h
      exact .inr (.inl ⟨_, _, _, _, rfl, rfl, a, e, g ρ H Ext.refl sim v rv⟩)
    · exact g.elim
  · cases rx with | p r => cases ri with | p q =>
    cases q
    cases r
    split at g
    · rename_i c
      split at g
      · rename_i h
        rw [ixP_at] at h
        exact .inr (.inr ⟨_, _, _, rfl, rfl, sz c, h, G.okp g sim (.str _)⟩)
      · exact g.elim
    · exact g.elim
  · cases rx with | loc l => cases ri with | p q =>
    split at g
    · rename_i h
      obtain ⟨xs, q1, r1⟩ := sim.lst h
      split at g
      · cases q
        split at g
        · rename_i h2
          obtain ⟨v, e, rv⟩ := r1.at h2
          exact .inl ⟨_, _, _, _, rfl, rfl, SqL.of q1, e, G.okp g sim rv⟩
        · exact g.elim
      · exact g.elim
    · rename_i h
      exact absurd h (nd _ _ rfl)
    · exact g.elim
  · exact g.elim
/-- d[k] -/
theorem dix_ok {l : Nat} {kvs : List (Key × P)} {pi : PV} {x i : V} (sim : Sim X.K ρ S H) (rx : RelQ X.K H ρ S.length (.loc l) x) (ri : RelQ X.K H ρ S.length pi i) (hd : S[l]? = some (.dct kvs))
    (g : G X.K W CV σ ρ S H (ixV (.loc l) pi S) (QV X.K Q)) : ∃ a v, x = .ref a ∧ DGet H a i (some v) ∧ Q v H := by
  unfold ixV at g
  cases ri with
  | p q =>
    dsimp only at g
    rw [hd] at g
    dsimp only at g
    obtain ⟨ws, q1, rw1⟩ := sim.dct hd
    split at g
    · rename_i k hk
      split at g
      · rename_i d h
        rcases lu_rel (k := k) rw1 with ⟨a, b⟩ | ⟨d2, v, a, b, rv⟩
        · rw [a] at h; cases h
        · rw [a] at h; cases h
          cases rx
          have dg := DGet.k (k := k) q1
          rw [b] at dg
          rw [keyP_rel q hk]
          exact ⟨_, v, rfl, dg, G.okp g sim rv⟩
      · exact g.elim
    · exact g.elim
  | loc _ => exact g.elim
  | mt _ _ => exact g.elim
  | exc _ => exact g.elim
theorem str_cut (z : Str) (lo hi : Option Int) : (⟨(cutP z.cps.toList lo hi).toArray⟩ : Str) = cutS z lo hi := by
  unfold cutP cutS
  rw [Array.length_toList]; rfl
abbrev rSlK (K : PySem.W.Frag) : V → Option Int → Option Int → Hp → VK → Prop := fun x lo hi H Q => rSlA K x lo hi H Q ∨ (fun x lo hi H Q => rSlL K x lo hi H Q ∨ rSlS x lo hi H Q) x lo hi H Q
theorem sl_all : SlR X (rSlK X.K) := sl_tupA.or (sl_list.or sl_str)
theorem sl_ok {px : PV} {x : V} {lo hi : Option Int} (sim : Sim X.K ρ S H) (rx : RelQ X.K H ρ S.length px x)
    (g : G X.K W CV σ ρ S H (slV px lo hi S) (QV X.K Q)) : rSlK X.K x lo hi H Q := by
  unfold slV at g
  split at g
  · cases rx with | p r =>
    cases r with | tup a b =>
    refine .inl ⟨_, _, rfl, a, fun e => ?_, fun e p hp => ?_⟩
    · refine G.okp g sim (.tup a ?_)
      have c := b.cut lo hi
      have z : cutV _ lo hi = _ := (by
        unfold cutV
        rw [e.1, e.2, List.drop_zero, Nat.sub_zero, List.take_length])
      rw [z] at c
      exact c
    · exact g ρ _ (sim.laid hp).2 (sim.laid hp).1 _ (.p (.tup (SqT.of upd_same) ((b.cut lo hi).keep (Keep.fresh _ hp))))
  · cases rx with | p r =>
    cases r with | lst a b =>
    exact .inr (.inl ⟨_, _, rfl, a.sq, fun p hp => G.newC g sim (b.cut lo hi) hp⟩)
  · cases rx with | p r =>
    cases r
    split at g
    · rename_i c
      refine .inr (.inr ⟨_, rfl, sz c, ?_⟩)
      rw [str_cut] at g
      exact G.okp g sim (.str _)
    · exact g.elim
  · cases rx with | loc l =>
    split at g
    · rename_i h
      obtain ⟨xs, q1, r1⟩ := sim.lst h
      exact .inr (.inl ⟨_, _, rfl, SqL.of q1, fun p hp => G.newC g sim (r1.cut lo hi) hp⟩)
    · exact g.elim
  · exact g.elim
/-! ### builtins -/
theorem intsP_eq : ∀ {ds : List P} {ns : List Int}, intsP ds = some ns → ds = ns.map .int
  | [], _, h => by cases h; rfl
  | .int i :: r, _, h => by
    unfold intsP at h
    cases q : intsP r with
    | none => rw [q] at h; cases h
    | some ms => rw [q] at h; cases h; rw [intsP_eq q]; rfl
  | .none :: _, _, h | .bool _ :: _, _, h | .str _ :: _, _, h | .list _ :: _, _, h | .tuple _ :: _, _, h | .dict _ :: _, _, h => by cases h
theorem blsP_eq : ∀ {ds : List P} {ns : List Bool}, blsP ds = some ns → ds = ns.map .bool
  | [], _, h => by cases h; rfl
  | .bool i :: r, _, h => by
    unfold blsP at h
    cases q : blsP r with
    | none => rw [q] at h; cases h
    | some ms => rw [q] at h; cases h; rw [blsP_eq q]; rfl
  | .none :: _, _, h | .int _ :: _, _, h | .str _ :: _, _, h | .list _ :: _, _, h | .tuple _ :: _, _, h | .dict _ :: _, _, h => by cases h
theorem strsP_eq : ∀ {ds : List P} {ns : List Str}, strsP ds = some ns → ds = ns.map .str
  | [], _, h => by cases h; rfl
  | .str i :: r, _, h => by
    unfold strsP at h
    cases q : strsP r with
    | none => rw [q] at h; cases h
    | some ms => rw [q] at h; cases h; rw [strsP_eq q]; rfl
  | .none :: _, _, h | .int _ :: _, _, h | .bool _ :: _, _, h | .list _ :: _, _, h | .tuple _ :: _, _, h | .dict _ :: _, _, h => by cases h
theorem maxI_spec : ∀ (r : List Int) (m : Int), (maxI m r = m ∨ maxI m r ∈ r) ∧ m ≤ maxI m r ∧ ∀ y ∈ r, y ≤ maxI m r
  | [], m => ⟨.inl rfl, Int.le_refl _, fun y h => by cases h⟩
  | x :: r, m => by
    obtain ⟨a, b, c⟩ := maxI_spec r (if x > m then x else m)
    have e : maxI m (x :: r) = maxI (if x > m then x else m) r := rfl
    rw [e]
    by_cases h : x > m
    · rw [if_pos h] at a b c ⊢
      refine ⟨?_, by omega, fun y hy => ?_⟩
      · rcases a with a | a
        · exact .inr (by rw [a]; exact List.mem_cons_self)
        · exact .inr (List.mem_cons_of_mem _ a)
      · rcases List.mem_cons.mp hy with rfl | hy
        · exact b
        · exact c y hy
    · rw [if_neg h] at a b c ⊢
      refine ⟨?_, b, fun y hy => ?_⟩
      · rcases a with a | a
        · exact .inl a
        · exact .inr (List.mem_cons_of_mem _ a)
      · rcases List.mem_cons.mp hy with rfl | hy
        · omega
        · exact c y hy
theorem maxI_uniq {n m : Int} {ns : List Int} (h1 : m ∈ n :: ns) (h2 : ∀ y, y ∈ n :: ns → y ≤ m) : m = maxI n ns := by
  obtain ⟨a, b, c⟩ := maxI_spec ns n
  have x1 : m ≤ maxI n ns := by
    rcases List.mem_cons.mp h1 with rfl | h
    · exact b
    · exact c m h
  have x2 : maxI n ns ≤ m := by
    rcases a with a | a
    · rw [a]; exact h2 n List.mem_cons_self
    · exact h2 _ (List.mem_cons_of_mem _ a)
  omega
theorem insI_perm (x : Int) : ∀ r, (insI x r).Perm (x :: r)
  | [] => .refl _
  | y :: r => by
    unfold insI
    split
    · exact .refl _
    · exact ((insI_perm x r).cons y).trans (.swap x y r)
theorem sortI_perm : ∀ r, (sortI r).Perm r
  | [] => .refl _
  | x :: r => (insI_perm x (sortI r)).trans ((sortI_perm r).cons x)
theorem insI_mem {x y : Int} {r : List Int} (h : y ∈ insI x r) : y = x ∨ y ∈ r := by
  have := (insI_perm x r).mem_iff.mp h
  simpa using this
theorem insI_sorted (x : Int) : ∀ r : List Int, r.Pairwise (· ≤ ·) → (insI x r).Pairwise (· ≤ ·)
  | [], _ => by simp [insI]
  | y :: r, h => by
    unfold insI
    rw [List.pairwise_cons] at h
    split
    · rename_i c
      rw [List.pairwise_cons, List.pairwise_cons]
      refine ⟨fun z hz => ?_, h⟩
      rcases List.mem_cons.mp hz with rfl | hz
      · exact c
      · exact Int.le_trans c (h.1 z hz)
    · rename_i c
      rw [List.pairwise_cons]
      refine ⟨fun z hz => ?_, insI_sorted x r h.2⟩
      rcases insI_mem hz with rfl | hz
      · omega
      · exact h.1 z hz
theorem sortI_sorted : ∀ r : List Int, (sortI r).Pairwise (· ≤ ·)
  | [] => by simp [sortI]
  | x :: r => insI_sorted x _ (sortI_sorted r)
theorem RelKs.keys : ∀ {kvs : List (Key × P)} {ws : List (Key × V)}, RelKs X.K H kvs ws → RelPs X.K H (kvs.map fun kv => pKey kv.1) (ws.map fun kv => kV kv.1)
  | _, _, .nil => .nil
  | _, _, .cons (a := a) (b := b) r t => by
    obtain ⟨e, _⟩ := r
    refine .cons ?_ (RelKs.keys t)
    show RelP X.K H (pKey a.1) (kV b.1)
    rw [e]
    cases b.1 with
    | inl i => exact .int i
    | inr s => exact .str s
theorem lock_dk {d : Addr} {ws : List (Key × V)} (I : Inv X pins σ H s) (h : H d = some (.dK ws)) : Rd H d (.dK ws) := .inl h
def hotBi : Bi → Bool
  | .len => true | .int => true | .str => true | .tup => true | .dict => true | _ => false
/-- the builtins that are called by their names, no type -/
def biId : Bi → Option String
  | .len => some "len" | .sum => some "sum" | .all => some "all" | .max1 => some "max" | .max2 => some "max" | .min2 => some "min" | .sorted => some "sorted" | _ => none
def biTy : Bi → Option String
  | .tup => some "tuple" | .lst => some "list" | .int => some "int" | .str => some "str" | .dict => some "dict" | _ => none
theorem bi_ok {b : Bi} {id : String} {ps : List PV} {xs : List V} {us : List Value} (hc : hotBi b = false → X.calm = true) (hb : biId b = some id) (I : Inv X pins σ H s) (sim : Sim X.K ρ S H) (rx : RelQs X.K H ρ S.length ps xs) (ru : Vals xs us)
    (g : G X.K W CV σ ρ S H (biV b ps S) (QV X.K Q)) : wpAny (model X.prog X.w) X.A (call (.builtin id) us) (EP X pins σ Q) X.xe s := by
  unfold biV at g
  split at g <;> first
    | exact g.elim
    | (cases hb; done)
    | skip
  · cases hb
    cases rx with | cons r1 r2 =>
    cases r2
    cases r1 with | loc l =>
    split at g
    · rename_i h
      obtain ⟨xs, q1, r⟩ := sim.lst h
      refine call_len pins s σ H _ us Q I ru ⟨_, _, rfl, .inl ⟨_, SqL.of q1, rfl⟩, ?_⟩
      have q := G.okp g sim (.int _)
      rw [r.length] at q; exact q
    · rename_i h
      obtain ⟨xs, q1, r⟩ := sim.dct h
      obtain ⟨u, rfl, e⟩ := vals1 ru
      cases e
      refine d_len I (.inl q1) fun t s' I' => ⟨.int _, H, I', ⟨t, rfl⟩, ?_⟩
      have q := G.okp g sim (.int _)
      rw [RelKs.length r] at q; exact q
    · exact g.elim
  · cases hb
    cases rx with | cons r1 r2 =>
    cases r2
    cases r1 with | p r =>
    cases r with | tup a b =>
    refine call_len pins s σ H _ us Q I ru ⟨_, _, rfl, .inr ⟨_, a, rfl⟩, ?_⟩
    have q := G.okp g sim (.int _)
    rw [b.length] at q; exact q
  · cases hb
    cases rx with | cons r1 r2 =>
    cases r2
    cases r1 with | p r =>
    cases r with | lst a b =>
    refine call_len pins s σ H _ us Q I ru ⟨_, _, rfl, .inl ⟨_, a.sq, rfl⟩, ?_⟩
    have q := G.okp g sim (.int _)
    rw [b.length] at q; exact q
  · cases hb
    cases rx with | cons r1 r2 =>
    cases r2
    cases r1 with | mt a b =>
    refine call_len pins s σ H _ us Q I ru ⟨_, _, rfl, .inr ⟨_, a, rfl⟩, ?_⟩
    have q := G.okp g sim (.int _)
    rw [b.length] at q; exact q
  · cases hb
    cases rx with | cons r1 r2 =>
    cases r2
    cases r1 with | p r =>
    cases r
    split at g
    · rename_i c
      exact call_len pins s σ H _ us Q I ru ⟨_, _, rfl, ⟨sz c, rfl⟩, G.okp g sim (.int _)⟩
    · exact g.elim
  · cases hb
    cases rx with | cons r1 r2 =>
    cases r2
    cases r1 with | loc l =>
    split at g
    · rename_i h
      obtain ⟨xs, q1, r⟩ := sim.lst h
      split at g
      · rename_i hi
        rw [intsP_eq hi] at r
        rw [r.toInts] at q1
        exact cr_sum (hc rfl) pins s σ H _ us Q I ru ⟨_, _, rfl, SqL.of q1, G.okp g sim (.int _)⟩
      · exact g.elim
    · exact g.elim
  · cases hb
    cases rx with | cons r1 r2 =>
    cases r2
    cases r1 with | loc l =>
    split at g
    · rename_i h
      obtain ⟨xs, q1, r⟩ := sim.lst h
      split at g
      · rename_i hi
        rw [blsP_eq hi] at r
        rw [r.toBls] at q1
        exact cr_all (hc rfl) pins s σ H _ us Q I ru ⟨_, _, rfl, SqL.of q1, G.okp g sim (.bl _)⟩
      · exact g.elim
    · exact g.elim
  · cases hb
    cases rx with | cons r1 r2 =>
    cases r2
    cases r1 with | loc l =>
    split at g
    · rename_i h
      obtain ⟨xs, q1, r⟩ := sim.lst h
      split at g
      · rename_i hi
        rw [intsP_eq hi] at r
        rw [r.toInts] at q1
        refine cr_max (hc rfl) pins s σ H _ us Q I ru ⟨_, _, rfl, SqL.of q1, by simp, fun m h1 h2 => ?_⟩
        rw [maxI_uniq h1 h2]
        exact G.okp g sim (.int _)
      · exact g.elim
    · exact g.elim
  · cases hb
    cases rx with | cons r1 r2 =>
    cases r2 with | cons r2 r3 =>
    cases r3
    cases r1 with | p r1 => cases r2 with | p r2 =>
    cases r1; cases r2
    exact call_max2 (hc rfl) pins s σ H _ us Q I ru ⟨_, _, rfl, G.okp g sim (.int _)⟩
  · cases hb
    cases rx with | cons r1 r2 =>
    cases r2 with | cons r2 r3 =>
    cases r3
    cases r1 with | p r1 => cases r2 with | p r2 =>
    cases r1; cases r2
    exact call_min2 (hc rfl) pins s σ H _ us Q I ru ⟨_, _, rfl, G.okp g sim (.int _)⟩
  · cases hb
    cases rx with | cons r1 r2 =>
    cases r2
    cases r1 with | loc l =>
    split at g
    · rename_i h
      obtain ⟨xs, q1, r⟩ := sim.lst h
      split at g
      · rename_i hi
        rw [intsP_eq hi] at r
        rw [r.toInts] at q1
        refine cr_sortedI pins s σ H _ us Q I ru ⟨_, _, rfl, SqL.of q1, ?_⟩
        intro ns' p hperm hsort hp
        have e : ns' = sortI _ := PySem.W.ksm_same (hperm.trans (sortI_perm _).symm) hsort (sortI_sorted _)
        rw [e]
        exact G.newC g sim RelPs.ints hp
      · exact g.elim
    · exact g.elim
theorem bt_ok {b : Bi} {id : String} {ps : List PV} {xs : List V} {us : List Value} (hc : hotBi b = false → X.calm = true) (hb : biTy b = some id) (I : Inv X pins σ H s) (sim : Sim X.K ρ S H) (rx : RelQs X.K H ρ S.length ps xs) (ru : Vals xs us)
    (g : G X.K W CV σ ρ S H (biV b ps S) (QV X.K Q)) : wpAny (model X.prog X.w) X.A (call (.type id) us) (EP X pins σ Q) X.xe s := by
  unfold biV at g
  split at g <;> first
    | exact g.elim
    | (cases hb; done)
    | skip
  · cases hb
    cases rx with | cons r1 r2 =>
    cases r2
    cases r1 with | p r =>
    cases r with | tup a b =>
    exact call_tuple_of pins s σ H _ us Q I ru ⟨_, _, rfl, .inr ⟨a, G.okp g sim (.tup a b)⟩⟩
  · cases hb
    cases rx with | cons r1 r2 =>
    cases r2
    cases r1 with | loc l =>
    split at g
    · rename_i h
      obtain ⟨xs, q1, r⟩ := sim.lst h
      exact call_tuple_of pins s σ H _ us Q I ru ⟨_, _, rfl, .inl ⟨SqL.of q1, fun p hp => g ρ _ (sim.laid hp).2 (sim.laid hp).1 _ (.p (.tup (SqT.of upd_same) (r.keep (Keep.fresh _ hp))))⟩⟩
    · exact g.elim
  · cases hb
    cases rx with | cons r1 r2 =>
    cases r2
    cases r1 with | p r =>
    cases r with | tup a b =>
    exact call_list_of pins s σ H _ us Q I ru ⟨_, _, rfl, .inr a, fun p hp => G.newC g sim b hp⟩
  · cases hb
    cases rx with | cons r1 r2 =>
    cases r2
    cases r1 with | p r =>
    cases r with | lst a b =>
    exact call_list_of pins s σ H _ us Q I ru ⟨_, _, rfl, .inl a.sq, fun p hp => G.newC g sim b hp⟩
  · cases hb
    cases rx with | cons r1 r2 =>
    cases r2
    cases r1 with | loc l =>
    split at g
    · rename_i h
      obtain ⟨xs, q1, r⟩ := sim.lst h
      exact call_list_of pins s σ H _ us Q I ru ⟨_, _, rfl, .inl (SqL.of q1), fun p hp => G.newC g sim r hp⟩
    · rename_i h
      obtain ⟨xs, q1, r⟩ := sim.dct h
      exact call_list_dK (hc rfl) pins s σ H _ us Q I ru ⟨_, _, rfl, q1, fun p hp => G.newC g sim r.keys hp⟩
    · exact g.elim
  · cases hb
    cases rx with | cons r1 r2 =>
    cases r2
    cases r1 with | p r =>
    cases r
    exact call_int1 pins s σ H _ us Q I ru (.inl ⟨_, rfl, G.okp g sim (.int _)⟩)
  · cases hb
    cases rx with | cons r1 r2 =>
    cases r2
    cases r1 with | p r =>
    cases r
    exact call_int1 pins s σ H _ us Q I ru (.inr ⟨_, rfl, G.okp g sim (.int _)⟩)
  · cases hb
    cases rx with | cons r1 r2 =>
    cases r2
    cases r1 with | p r =>
    cases r
    split at g
    · rename_i c
      exact call_str_int pins s σ H _ us Q I ru ⟨_, rfl, c, G.okp g sim (.str _)⟩
    · exact g.elim
  · cases hb
    cases rx with | cons r1 r2 =>
    cases r2
    cases r1 with | loc l =>
    split at g
    · rename_i kvs h
      obtain ⟨xs, q1, r⟩ := sim.dct h
      refine call_dictD pins s σ H _ us Q I ru ⟨_, _, rfl, .inl q1, fun p hp => ?_⟩
      obtain ⟨s2, x2⟩ := sim.new (o := .dK xs) (c := .dct _) hp ⟨xs, upd_same, r.keep (Keep.fresh _ hp)⟩
      have z : RelQ X.K (upd H p (.dK xs)) (put ρ S.length p) (S ++ [Cell.dct kvs]).length (.loc S.length) (.ref (put ρ S.length p S.length)) := .loc (by simp)
      rw [put_same] at z
      exact g _ _ x2 s2 _ z
    · exact g.elim
/-! ### isinstance -/
def tyId : Ty → String
  | .tup => "tuple" | .lst => "list" | .str => "str" | .int => "int" | .bool => "bool"
theorem isi_ok {t : Ty} {px : PV} {x : V} {us : List Value} {Q : Bool → Hp → Prop} (I : Inv X pins σ H s) (sim : Sim X.K ρ S H) (rx : RelQ X.K H ρ S.length px x) (ru : Vals [x, .ty (tyId t)] us)
    (g : G X.K W CV σ ρ S H (isiV t px S) (fun b _ _ H' => Q b H')) : wpAny (model X.prog X.w) X.A (call (.builtin "isinstance") us) (EP X pins σ fun z H1 => ∃ k, z = .bl k ∧ Q k H1) X.xe s := by
  have go : ∀ {n : String} {b : Bool}, TyX X.K H x (.type n) → kitB n (tyId t) = some b → Q b H → wpAny (model X.prog X.w) X.A (call (.builtin "isinstance") us) (EP X pins σ fun z H1 => ∃ k, z = .bl k ∧ Q k H1) X.xe s :=
    fun {n b} ty e q => call_isi pins s σ H _ us _ I ru ⟨_, _, _, _, b, rfl, .ty _, ty, kit_ty e, _, rfl, q⟩
  have tt : ∀ {a : Addr} {ys : List V}, SqT X.K H a ys → TyX X.K H (.ref a) (.type "tuple") := by
    intro a ys h
    rcases h with (h | ⟨o, h⟩) | ⟨o, its, n, h, c, _⟩
    · exact .base (.tup h)
    · exact .fTuple h
    · exact .kTuple h c
  have tl : ∀ {a : Addr} {ys : List V}, FrzL X.K H a ys → TyX X.K H (.ref a) (.type "list") := by
    intro a ys h
    rcases h with ⟨o, h⟩ | ⟨o, its, n, h, c, _⟩
    · exact .base (.frz h)
    · exact .kList h c
  cases rx with
  | p r =>
    cases r with
    | non => cases t <;> exact go (.base .non) (by decide +kernel) (G.okb g sim)
    | bl b => cases t <;> exact go (.base (.bl b)) (by decide +kernel) (G.okb g sim)
    | int i => cases t <;> exact go (.base (.int i)) (by decide +kernel) (G.okb g sim)
    | str z => cases t <;> exact go (.base (.str z)) (by decide +kernel) (G.okb g sim)
    | lst a b => cases t <;> exact go (tl a) (by decide +kernel) (G.okb g sim)
    | tup a b => cases t <;> exact go (tt a) (by decide +kernel) (G.okb g sim)
  | mt a b => cases t <;> exact go (tt a) (by decide +kernel) (G.okb g sim)
  | exc _ => cases t <;> exact g.elim
  | @loc l hl =>
    have e : S[l]? = some S[l] := List.getElem?_eq_getElem hl
    cases q : S[l] with
    | lst ds =>
      rw [q] at e
      obtain ⟨xs, q1, r1⟩ := sim.lst e
      cases t <;> (simp only [isiV, e] at g; exact go (.base (.lst q1)) (by decide +kernel) (G.okb g sim))
    | dct ds =>
      rw [q] at e
      obtain ⟨xs, q1, r1⟩ := sim.dct e
      cases t <;> (simp only [isiV, e] at g; exact go (.base (.dK q1)) (by decide +kernel) (G.okb g sim))
end
end Kp

set_option Elab.async false
set_option linter.all false
set_option maxRecDepth 100000
set_option maxHeartbeats 4000000
set_option autoImplicit false
/-! K5: the text's forms and the small language: the relation. -/
namespace Kp
open PySem PySem.Spec PyProof.Rows L2

/-- what a text's names mean -/
structure TC where
  N : List Str
  fn : Str → Option Nat
  cst : Str → Option P
  cls : Str → Option Nat
  fre : Str → Bool
  hot : Bool
  exm : Nat → Nat → Option Bool
  ncl : Nat
  hfn : Nat → Bool
  isx : Str → Nat → Option Bool
def TC.heat (C : TC) : TC := { C with hot := true }
def yesL (C : TC) (k : Nat) : List Nat := (List.range C.ncl).filter fun c => C.exm c k == some true
def noL (C : TC) (k : Nat) : List Nat := (List.range C.ncl).filter fun c => C.exm c k == some false
/-- the classes whose instances are of one of these, of none -/
def yesX (C : TC) (xs : List Str) : List Nat := (List.range C.ncl).filter fun c => xs.all (fun x => (C.isx x c).isSome) && xs.any fun x => C.isx x c == some true
def noX (C : TC) (xs : List Str) : List Nat := (List.range C.ncl).filter fun c => xs.all fun x => C.isx x c == some false
def visB (sc : Scope) (x : Str) : Bool := match sc.names.lookup x with
  | some .local => true
  | some .cell => true
  | some .free => true
  | _ => false
def locB (sc : Scope) (x : Str) : Bool := match sc.names.lookup x with
  | some .local => true
  | some .cell => true
  | _ => false
def glB (sc : Scope) (x : Str) : Bool := match sc.names.lookup x with
  | some .globalImplicit => true
  | _ => false
def nst : Expr → Bool
  | .Starred _ _ => false
  | _ => true
def baseB : Expr → Bool
  | .Call _ [] [] _ => false
  | _ => true
def isSl : Expr → Bool
  | .Slice _ _ none _ => true
  | _ => false
def isLc : Expr → Bool
  | .ListComp _ _ _ _ => true
  | .SetComp _ _ _ _ => true
  | .DictComp _ _ _ _ _ => true
  | _ => false
def isSet : Expr → Bool
  | .Set _ _ _ => true
  | _ => false
def isTup : Expr → Bool
  | .Tuple _ _ _ => true
  | _ => false
def plE : Expr → Bool
  | .UnaryOp _ _ _ => false
  | .BoolOp _ _ _ => false
  | .IfExp _ _ _ _ => false
  | .Compare _ _ _ _ => false
  | _ => true
def dbg (x : Str) : Bool := !(x == ("__debug__" : Str)) && !(x == ("__classdict__" : Str)) && !decide (x = ("__name__" : Str))
def arB : Bi → Nat → Bool
  | .max2, 2 => true
  | .min2, 2 => true
  | .max1, 1 => true
  | .max2, _ => false
  | .min2, _ => false
  | .max1, _ => false
  | _, _ => true
def mtArg : Mt → Nat
  | .append => 1 | .get2 => 2 | .pop0 => 0 | .reverse => 0 | .join => 1 | .index => 1 | .count => 1 | .insert => 2
def mtNm : Mt → Str
  | .append => "append" | .get2 => "get" | .pop0 => "pop" | .reverse => "reverse" | .index => "index" | .count => "count" | .insert => "insert" | .join => "join"
/-- names of the module -/
inductive TrNs : Scope → List Expr → List Str → Prop
  | nil {sc : Scope} : TrNs sc [] []
  | cons {sc : Scope} {x : Str} {p : Pos} {es : List Expr} {xs : List Str} : glB sc x = true → dbg x = true → TrNs sc es xs → TrNs sc (.Name x p :: es) (x :: xs)
mutual
inductive TrE (C : TC) : Scope → Expr → Ex → Prop
  | v {sc : Scope} {i : Nat} {x : Str} {pos : Pos} : C.N[i]? = some x → visB sc x = true → dbg x = true → TrE C sc (.Name x pos) (.v i)
  | int {sc : Scope} {i : Int} {j : Nat} {pos : Pos} : TrE C sc (.Constant (.int i) j pos) (.c (.int i))
  | bl {sc : Scope} {i : Bool} {j : Nat} {pos : Pos} : TrE C sc (.Constant (.bool i) j pos) (.c (.bool i))
  | non {sc : Scope} {j : Nat} {pos : Pos} : TrE C sc (.Constant .none j pos) (.c .none)
  | str {sc : Scope} {i : Str} {j : Nat} {pos : Pos} : TrE C sc (.Constant (.str i) j pos) (.c (.str i))
  | glob {sc : Scope} {x : Str} {k : P} {pos : Pos} : glB sc x = true → dbg x = true → C.cst x = some k → TrE C sc (.Name x pos) (.c k)
  | bin {sc : Scope} {o : Bop} {a b : Expr} {x y : Ex} {pos : Pos} : TrE C sc a x → TrE C sc b y → TrE C sc (.BinOp a (opOf o) b pos) (.bin o x y)
  | cmp {sc : Scope} {o : Cop} {a b : Expr} {x y : Ex} {pos : Pos} : TrE C sc a x → TrE C sc b y → isSet b = false → TrE C sc (.Compare a [copOf o] [b] pos) (.cmp o x y)
  | neg {sc : Scope} {a : Expr} {x : Ex} {pos : Pos} : TrE C sc a x → TrE C sc (.UnaryOp .USub a pos) (.neg x)
  | not' {sc : Scope} {a : Expr} {x : Ex} {pos : Pos} : TrE C sc a x → TrE C sc (.UnaryOp .Not a pos) (.not' x)
  | ife {sc : Scope} {t a b : Expr} {w x y : Ex} {pos : Pos} : TrE C sc t w → TrE C sc a x → TrE C sc b y → TrE C sc (.IfExp t a b pos) (.ife w x y)
  | and' {sc : Scope} {a b : Expr} {r : List Expr} {m : Ex} {pos : Pos} : TrB C sc .And (a :: b :: r) m → TrE C sc (.BoolOp .And (a :: b :: r) pos) m
  | or' {sc : Scope} {a b : Expr} {r : List Expr} {m : Ex} {pos : Pos} : TrB C sc .Or (a :: b :: r) m → TrE C sc (.BoolOp .Or (a :: b :: r) pos) m
  | tup {sc : Scope} {es : List Expr} {ms : Exs} {k : Nat} {pos : Pos} : TrEs C sc es ms → es.length ≤ 1000 → TrE C sc (.Tuple es k pos) (.tup ms)
  | lst {sc : Scope} {es : List Expr} {ms : Exs} {pos : Pos} : TrEs C sc es ms → TrE C sc (.List es pos) (.lst ms)
  | dct0 {sc : Scope} {pos : Pos} : TrE C sc (.Dict [] [] pos) (.dct [] .nil)
  | dct {sc : Scope} {keys : List (Option Expr)} {k₀ : Option Expr} {vals : List Expr} {ks : List Str} {ms : Exs} {pos : Pos} : TrD C sc (k₀ :: keys) vals ks ms → (k₀ :: keys).length ≤ 15 → TrE C sc (.Dict (k₀ :: keys) vals pos) (.dct ks ms)
  | ix {sc : Scope} {a b : Expr} {x y : Ex} {pos : Pos} : TrE C sc a x → TrE C sc b y → isSl b = false → TrE C sc (.Subscript a b pos) (.ix x y)
  | sl {sc : Scope} {a : Expr} {lo hi : Option Expr} {x : Ex} {l h : Oe} {p2 pos : Pos} : TrE C sc a x → TrO C sc lo l → TrO C sc hi h → TrE C sc (.Subscript a (.Slice lo hi none p2) pos) (.sl x l h)
  | rev {sc : Scope} {a : Expr} {x : Ex} {k : Nat} {p1 p2 p3 pos : Pos} : TrE C sc a x → TrE C sc (.Subscript a (.Slice none none (some (.UnaryOp .USub (.Constant (.int 1) k p1) p2)) p3) pos) (.rev x)
  | call {sc : Scope} {f : Str} {i : Nat} {e : Expr} {es : List Expr} {m : Ex} {ms : Exs} {p pos : Pos} : (C.hot && !C.hfn i) = false → glB sc f = true → dbg f = true → C.fn f = some i → TrEs C sc (e :: es) (.cons m ms) → TrE C sc (.Call (.Name f p) (e :: es) [] pos) (.call i (.cons m ms))
  | call0 {sc : Scope} {f : Str} {i : Nat} {p pos : Pos} : (C.hot && !C.hfn i) = false → glB sc f = true → dbg f = true → C.fn f = some i → TrE C sc (.Call (.Name f p) [] [] pos) (.call i .nil)
  | bi {sc : Scope} {b : Bi} {id : String} {e : Expr} {es : List Expr} {m : Ex} {ms : Exs} {p pos : Pos} : (C.hot && !hotBi b) = false → biId b = some id → arB b (e :: es).length = true → glB sc (id : Str) = true → C.fre (id : Str) = true → TrEs C sc (e :: es) (.cons m ms) → TrE C sc (.Call (.Name (id : Str) p) (e :: es) [] pos) (.bi b (.cons m ms))
  | bt {sc : Scope} {b : Bi} {id : String} {e : Expr} {es : List Expr} {m : Ex} {ms : Exs} {p pos : Pos} : (C.hot && !hotBi b) = false → biTy b = some id → glB sc (id : Str) = true → C.fre (id : Str) = true → TrEs C sc (e :: es) (.cons m ms) → TrE C sc (.Call (.Name (id : Str) p) (e :: es) [] pos) (.bi b (.cons m ms))
  | mth {sc : Scope} {mt : Mt} {o : Expr} {es : List Expr} {x : Ex} {ms : Exs} {apos cpos : Pos} : TrE C sc o x → TrEs C sc es ms → es.length = mtArg mt → mtArg mt < 20 → baseB o = true → (apos.endLine == cpos.line) = true → TrE C sc (.Call (.Attribute o (mtNm mt) apos) es [] cpos) (.mth mt x ms)
  | mxd {sc : Scope} {a d : Expr} {x y : Ex} {p kp pos : Pos} : C.hot = false → glB sc ("max" : Str) = true → C.fre ("max" : Str) = true → TrE C sc a x → TrE C sc d y → TrE C sc (.Call (.Name ("max" : Str) p) [a] [⟨some ("default" : Str), d, kp⟩] pos) (.bi .maxd (.cons x (.cons y .nil)))
  | isi {sc : Scope} {t : Ty} {a : Expr} {x : Ex} {p p2 pos : Pos} : glB sc ("isinstance" : Str) = true → C.fre ("isinstance" : Str) = true → glB sc (tyId t : Str) = true → C.fre (tyId t : Str) = true → TrE C sc a x →
      TrE C sc (.Call (.Name ("isinstance" : Str) p) [a, .Name (tyId t : Str) p2] [] pos) (.isi x t)
  | isx {sc : Scope} {x : Str} {a : Expr} {m : Ex} {p p2 pos : Pos} : glB sc ("isinstance" : Str) = true → C.fre ("isinstance" : Str) = true → TrE C sc a m → glB sc x = true → dbg x = true →
      TrE C sc (.Call (.Name ("isinstance" : Str) p) [a, .Name x p2] [] pos) (.isx m (yesX C [x]) (noX C [x]))
  | isxT {sc : Scope} {xs : List Str} {es : List Expr} {a : Expr} {m : Ex} {k : Nat} {p p2 pos : Pos} : glB sc ("isinstance" : Str) = true → C.fre ("isinstance" : Str) = true → TrE C sc a m → TrNs sc es xs → es.length ≤ 1000 → xs.isEmpty = false →
      TrE C sc (.Call (.Name ("isinstance" : Str) p) [a, .Tuple es k p2] [] pos) (.isx m (yesX C xs) (noX C xs))
  | comp {sc sc' : Scope} {tgx : Str} {tp : Pos} {i : Nat} {iter elt : Expr} {ifs : List Expr} {it : Ix} {tst : Oe} {e : Ex} {pos : Pos} : C.hot = false → TrI C sc (.Name tgx tp) iter it → blkC C.N sc sc' [(tgx, i)] = true → locB sc' tgx = true → C.N[i]? = some tgx →
      TrC C sc' ifs tst → TrE C sc' elt e → TrE C sc (.ListComp elt [⟨.Name tgx tp, iter, ifs, 0⟩] sc' pos) (.comp i it tst e)
inductive TrB (C : TC) : Scope → PySem.BoolOp → List Expr → Ex → Prop
  | one {sc : Scope} {op : PySem.BoolOp} {a : Expr} {x : Ex} : TrE C sc a x → TrB C sc op [a] x
  | and' {sc : Scope} {a b : Expr} {r : List Expr} {x y : Ex} : TrE C sc a x → TrB C sc .And (b :: r) y → TrB C sc .And (a :: b :: r) (.and' x y)
  | or' {sc : Scope} {a b : Expr} {r : List Expr} {x y : Ex} : TrE C sc a x → TrB C sc .Or (b :: r) y → TrB C sc .Or (a :: b :: r) (.or' x y)
inductive TrEs (C : TC) : Scope → List Expr → Exs → Prop
  | nil {sc : Scope} : TrEs C sc [] .nil
  | cons {sc : Scope} {e : Expr} {es : List Expr} {m : Ex} {ms : Exs} : TrE C sc e m → TrEs C sc es ms → TrEs C sc (e :: es) (.cons m ms)
inductive TrO (C : TC) : Scope → Option Expr → Oe → Prop
  | non {sc : Scope} : TrO C sc none .non
  | one {sc : Scope} {e : Expr} {m : Ex} : TrE C sc e m → TrO C sc (some e) (.one m)
inductive TrC (C : TC) : Scope → List Expr → Oe → Prop
  | non {sc : Scope} : TrC C sc [] .non
  | one {sc : Scope} {e : Expr} {m : Ex} : TrE C sc e m → TrC C sc [e] (.one m)
inductive TrD (C : TC) : Scope → List (Option Expr) → List Expr → List Str → Exs → Prop
  | nil {sc : Scope} : TrD C sc [] [] [] .nil
  | cons {sc : Scope} {k : Str} {j : Nat} {p : Pos} {e : Expr} {keys : List (Option Expr)} {es : List Expr} {ks : List Str} {m : Ex} {ms : Exs} : TrE C sc e m → TrD C sc keys es ks ms →
      TrD C sc (some (.Constant (.str k) j p) :: keys) (e :: es) (k :: ks) (.cons m ms)
inductive TrI (C : TC) : Scope → Expr → Expr → Ix → Prop
  | val {sc : Scope} {tg e : Expr} {m : Ex} : TrE C sc e m → isSet e = false → TrI C sc tg e (.val m)
  | rng1 {sc : Scope} {tg a : Expr} {x : Ex} {p pos : Pos} : glB sc ("range" : Str) = true → C.fre ("range" : Str) = true → TrE C sc a x → TrI C sc tg (.Call (.Name ("range" : Str) p) [a] [] pos) (.rng1 x)
  | rng2 {sc : Scope} {tg a b : Expr} {x y : Ex} {p pos : Pos} : glB sc ("range" : Str) = true → C.fre ("range" : Str) = true → TrE C sc a x → TrE C sc b y → TrI C sc tg (.Call (.Name ("range" : Str) p) [a, b] [] pos) (.rng2 x y)
  | zip {sc : Scope} {elts : List Expr} {kk : Nat} {tpos : Pos} {a b : Expr} {x y : Ex} {p pos : Pos} : glB sc ("zip" : Str) = true → C.fre ("zip" : Str) = true → TrE C sc a x → TrE C sc b y → TrI C sc (.Tuple elts kk tpos) (.Call (.Name ("zip" : Str) p) [a, b] [] pos) (.zip x y)
  | revR {sc : Scope} {tg a : Expr} {x : Ex} {p p2 pos pos2 : Pos} : glB sc ("range" : Str) = true → C.fre ("range" : Str) = true → glB sc ("reversed" : Str) = true → C.fre ("reversed" : Str) = true → TrE C sc a x →
      TrI C sc tg (.Call (.Name ("reversed" : Str) p) [.Call (.Name ("range" : Str) p2) [a] [] pos2] [] pos) (.revR x)
  | revL {sc : Scope} {tg a : Expr} {x : Ex} {p pos : Pos} : glB sc ("reversed" : Str) = true → C.fre ("reversed" : Str) = true → TrE C sc a x → TrI C sc tg (.Call (.Name ("reversed" : Str) p) [a] [] pos) (.revL x)
end
/-! targets, statements -/
inductive TrGs (C : TC) : Scope → List Expr → List Nat → Prop
  | nil {sc : Scope} : TrGs C sc [] []
  | cons {sc : Scope} {x : Str} {p : Pos} {i : Nat} {es : List Expr} {is : List Nat} : C.N[i]? = some x → locB sc x = true → TrGs C sc es is → TrGs C sc (.Name x p :: es) (i :: is)
inductive TrG (C : TC) : Scope → Expr → Tg → Prop
  | nm {sc : Scope} {x : Str} {p : Pos} {i : Nat} : C.N[i]? = some x → locB sc x = true → TrG C sc (.Name x p) (.nm i)
  | tp {sc : Scope} {es : List Expr} {k : Nat} {pos : Pos} {is : List Nat} : C.hot = false → TrGs C sc es is → TrG C sc (.Tuple es k pos) (.tp is)
/-- y = [..] by its own road -/
def swB (sc : Scope) (y : Str) (py : Pos) : Expr → Bool
  | .ListComp _ _ sc' pos => (match sc.names.lookup y with
    | some .local => true
    | _ => false) && (py.line == pos.line) && !(sc'.names.any fun (n, k) => n == y && (k == .local || k == .cell))
  | _ => false
mutual
inductive TrS : TC → Scope → Stmt → Sm → Prop
  | asgN {C : TC} {sc : Scope} {x : Str} {p pos : Pos} {i : Nat} {e : Expr} {m : Ex} : C.N[i]? = some x → locB sc x = true → TrE C sc e m → isLc e = false → TrS C sc (.Assign [.Name x p] e pos) (.asg (.nm i) m)
  | asgC {C : TC} {sc : Scope} {x : Str} {p pos : Pos} {i : Nat} {e : Expr} {m : Ex} : C.N[i]? = some x → locB sc x = true → TrE C sc e m → swB sc x p e = true → TrS C sc (.Assign [.Name x p] e pos) (.asg (.nm i) m)
  | asgD {C : TC} {sc : Scope} {x : Str} {p pos : Pos} {i : Nat} {e : Expr} {m : Ex} : C.N[i]? = some x → locB sc x = true → TrE C sc e m → sc.names.lookup x = some .cell → TrS C sc (.Assign [.Name x p] e pos) (.asg (.nm i) m)
  | asgT {C : TC} {sc : Scope} {es : List Expr} {k : Nat} {p pos : Pos} {is : List Nat} {e : Expr} {m : Ex} : C.hot = false → TrGs C sc es is → TrE C sc e m → isLc e = false → isTup e = false → TrS C sc (.Assign [.Tuple es k p] e pos) (.asg (.tp is) m)
  | setI {C : TC} {sc : Scope} {o i e : Expr} {p pos : Pos} {x y z : Ex} : TrE C sc o x → TrE C sc i y → TrE C sc e z → isLc e = false → isSl i = false → TrS C sc (.Assign [.Subscript o i p] e pos) (.setI x y z)
  | ex {C : TC} {sc : Scope} {e : Expr} {pos : Pos} {m : Ex} : TrE C sc e m → isLc e = false → TrS C sc (.Expr e pos) (.ex m)
  | ret {C : TC} {sc : Scope} {e : Expr} {pos : Pos} {m : Ex} : TrE C sc e m → TrS C sc (.Return (some e) pos) (.ret m)
  | retN {C : TC} {sc : Scope} {pos : Pos} : TrS C sc (.Return none pos) .retN
  | ift {C : TC} {sc : Scope} {t : Expr} {a b : List Stmt} {pos : Pos} {m : Ex} {x y : Sms} : TrE C sc t m → TrSs C sc a x → TrSs C sc b y → TrS C sc (.If t a b pos) (.ift m x y)
  | for' {C : TC} {sc : Scope} {tg it : Expr} {b : List Stmt} {pos : Pos} {t : Tg} {m : Ix} {x : Sms} : C.hot = false → TrG C sc tg t → TrI C sc tg it m → TrSs C sc b x → TrS C sc (.For tg it b [] pos) (.for' t m x)
  | while {C : TC} {sc : Scope} {t : Expr} {b : List Stmt} {pos : Pos} {m : Ex} {x : Sms} : C.hot = false → TrE C sc t m → TrSs C sc b x → TrS C sc (.While t b [] pos) (.while m x)
  | raise {C : TC} {sc : Scope} {x m : Str} {c : Nat} {p p2 p3 pos : Pos} {j : Nat} : C.hot = false → glB sc x = true → dbg x = true → C.cls x = some c → TrS C sc (.Raise (some (.Call (.Name x p) [.Constant (.str m) j p2] [] p3)) none pos) (.raise c)
  | cont {C : TC} {sc : Scope} {pos : Pos} : TrS C sc (.Continue pos) .cont
  | pass {C : TC} {sc : Scope} {pos : Pos} : TrS C sc (.Pass pos) .pass
  | tryM {C : TC} {sc : Scope} {b : List Stmt} {h₀ : ExceptHandler} {hs : List ExceptHandler} {pos : Pos} {m : Sms} {h : Hs} : C.hot = false → TrSs C sc b m → TrHs C sc (h₀ :: hs) h → TrS C sc (.Try b (h₀ :: hs) [] [] pos) (.tryM m h)
  | tryA {C : TC} {sc : Scope} {b suite : List Stmt} {b₀ : Stmt} {x n : Str} {np pos' pos : Pos} {k i : Nat} {m h : Sms} : C.hot = false → TrSs C sc b m → glB sc x = true → dbg x = true → C.cls x = some k → C.N[i]? = some n → sc.names.lookup n = some .local → TrSs C.heat sc (b₀ :: suite) h →
      TrS C sc (.Try b [.ExceptHandler (some (.Name x np)) (some n) (b₀ :: suite) pos'] [] [] pos) (.tryA m (yesL C k) (noL C k) i h)
inductive TrHs : TC → Scope → List ExceptHandler → Hs → Prop
  | nil {C : TC} {sc : Scope} : TrHs C sc [] .nil
  | cons {C : TC} {sc : Scope} {x : Str} {b₀ : Stmt} {suite : List Stmt} {np pos' : Pos} {hs : List ExceptHandler} {k : Nat} {m : Sms} {h : Hs} : glB sc x = true → dbg x = true → C.cls x = some k → TrSs C.heat sc (b₀ :: suite) m → TrHs C sc hs h →
      TrHs C sc (.ExceptHandler (some (.Name x np)) none (b₀ :: suite) pos' :: hs) (.cons (yesL C k) (noL C k) m h)
inductive TrSs : TC → Scope → List Stmt → Sms → Prop
  | nil {C : TC} {sc : Scope} : TrSs C sc [] .nil
  | cons {C : TC} {sc : Scope} {s : Stmt} {r : List Stmt} {x : Sm} {y : Sms} : TrS C sc s x → TrSs C sc r y → TrSs C sc (s :: r) (.cons x y)
end
section
variable {C : TC} {sc : Scope} {e : Expr} {m : Ex}
theorem TrE.nst (h : TrE C sc e m) : nst e = true := by cases h <;> rfl
theorem starE {e : Expr} {es : List Expr} {env : Env} (h : nst e = true) : starEach (e :: es) env = (false, eval e env) :: starEach es env := by
  cases e <;> first | rfl | cases h
theorem TrEs.plain {es : List Expr} {ms : Exs} {env : Env} {pos : Pos} (h : TrEs C sc es ms) : (backTo pos (starEach es env)).any (·.1) = false := by
  induction es generalizing ms with
  | nil => rfl
  | cons e es ih =>
    cases h with
    | cons a b =>
      rw [starE a.nst]
      show (false || (backTo pos (starEach es env)).any (·.1)) = false
      rw [ih b]; rfl
theorem isTrue_pl {e : Expr} {env : Env} (h : plE e = true) (whole : Sem Value) : isTrue e env whole = (do let v ← whole; standAt e.pos; holding [v] (truthy v)) := by
  cases e <;> first | rfl | cases h
theorem behind_ns {op : CmpOp} {b : Expr} (h : isSet b = false) : behindInMarks op b = false := by
  cases b <;> first | rfl | cases h
theorem sub_ns {b : Expr} (h : isSl b = false) (o i : Value) : subscripted b false o i = operate [o, i] (getItem o i) := by
  cases b <;> first | rfl | skip
  rename_i lo hi st p
  cases st with
  | none => cases h
  | some x => rfl
theorem folded_ns {e : Expr} {env : Env} (h : isSet e = false) (x : Value) : foldedSetIterable e env x = pure x := by
  cases e <;> first | rfl | cases h
theorem sw_nl {e : Expr} {t : Option Expr} {l : Nat} {env : Env} (h : isLc e = false) : swapsWith e t l env = pure false := by
  cases e <;> first | rfl | cases h
theorem base_nb {o : Expr} {m : Str} {env : Env} {w : Sem Value} (h : baseB o = true) : attributeBase o m env w = w := by
  cases o <;> first | rfl | skip
  rename_i f as ks p
  cases as with
  | nil =>
    cases ks with
    | nil => cases h
    | cons _ _ => cases f <;> rfl
  | cons _ _ => cases f <;> rfl
end
end Kp

set_option Elab.async false
set_option linter.all false
set_option maxRecDepth 100000
set_option maxHeartbeats 4000000
set_option autoImplicit false
/-! K6: what the evaluator says, the model does: expressions. -/
namespace Kp
open PySem PySem.Spec PyProof.Rows L2

/-- what a def promises: the evaluator's answer -/
def spE [Xc] (K : PySem.W.Frag) (CV : Nat → Value) (cl : Cl) (f : Nat) : Sp := fun vs H Q E => ∃ ρ S ps, Sim K ρ S H ∧ RelQs K H ρ S.length ps vs ∧ G K (fun c d _ H => E c d H) CV [] ρ S H (cl f ps S) (QV K Q)
/-- the exception that is handled, as a value -/
def xcP (CV : Nat → Value) (p : Addr × Obj) : Xc := ⟨fun c a => a = p.1 ∧ p.2.cls = CV c ∧ p.2.dict = none⟩
/-- what a def promises where an exception is handled -/
structure FnX (P : Program) (w : World) (K : PySem.W.Frag) (mg : Str → Option Value) (base : Heap) (CX : CXT) (k : Nat) (f : Addr) (fd : FuncData) (ps : List Str) (sp : Addr × Obj → Sp) : Prop where
  len : ∀ p vs H Q E, sp p vs H Q E → vs.length = ps.length
  run : ∀ (p : Addr × Obj) (A : Around) (outer : List Env) (s : Shared) (H : Hp) (args : Args) (us : List Value) (vs : List V) (Q : VK) (E : XK), L2H.RoomH k A → L2H.Hot1 A p → L2H.PinOk outer H s p →
    Env0 P w K mg base A outer s H → BindsTo s fd args (ps.zip us) → Vals vs us → sp p vs H Q E → codeAny (model P w) A (.call (.ref f) args) (CR CX outer P w H s Q E) s
/-- what a name of a class means -/
def IsxOk (K : PySem.W.Frag) (CV : Nat → Value) (mg : Str → Option Value) (x : Str) (c : Nat) (b : Bool) : Prop :=
  ∃ (D : Addr) (v : V) (cv : Value), CV c = .ref D ∧ L2.ExcC K D ∧ PySem.W.kitOne K (.ref D) cv = some b ∧ RelV v cv ∧ (∀ u, RelV v u → u = cv) ∧ (mg x = some cv ∨ mg x = none ∧ bootBuiltins x = some cv)
structure Ok [Xc] (C : TC) (CV : Nat → Value) (cl : Cl) (n : Nat) (sc : Scope) (X : Cx) (W : WX) : Prop where
  N : X.N = C.N
  nd : C.N.Nodup
  calm : C.hot = false → X.calm = true
  room : C.hot = false → Room n X.A
  hu : X.A.units + 64 < cLine
  takes : L2N.Takes X W
  vis : ∀ x, visB sc x = true → Vis X.env.scope x
  glo : ∀ x, glB sc x = true → Gl X x
  loc : ∀ x, locB sc x = true → Loc X.env.scope x ∧ (X.fn x = true ∨ X.env.scope.names.lookup x = some .local)
  lo : ∀ x, sc.names.lookup x = some .local → X.env.scope.names.lookup x = some .local
  ce : ∀ x, sc.names.lookup x = some .cell → X.env.scope.names.lookup x = some .cell
  cf : ∀ x, (sc.names.lookup x = some .cell ∨ sc.names.lookup x = some .free) → (X.env.scope.names.lookup x = some .cell ∨ X.env.scope.names.lookup x = some .free)
  fre : ∀ x, C.fre x = true → X.mg x = none
  cst : ∀ x k, C.cst x = some k → ∃ v u, X.mg x = some u ∧ RelV v u ∧ ∀ H, RelP X.K H k v
  fn : ∀ x f, C.fn x = some f → ∃ a fd ps, X.mg x = some (.ref a) ∧ PySem.W.keepIn X.K (.ref a) = true ∧ Binds X.K fd ps [] ∧ FnOk X.prog X.w X.K X.mg X.base (L2N.CX X.prog X.w) n a fd ps (@spE xc0 X.K CV cl f)
  cold : C.hot = false → ∀ c a, ¬ Xc.at' c a
  warm : C.hot = true → ∃ p : Addr × Obj, L2H.Hot1 X.A p ∧ p ∈ X.pn ∧ ‹Xc› = xcP CV p
  roomH : C.hot = true → L2H.RoomH n X.A
  fnH : ∀ x f, C.fn x = some f → C.hfn f = true → ∃ a fd ps, X.mg x = some (.ref a) ∧ PySem.W.keepIn X.K (.ref a) = true ∧ Binds X.K fd ps [] ∧ FnX X.prog X.w X.K X.mg X.base (L2N.CX X.prog X.w) n a fd ps (fun p => @spE (xcP CV p) X.K CV cl f)
  isx : ∀ x c b, C.isx x c = some b → IsxOk X.K CV X.mg x c b
section
variable [Xc] {C : TC} {CV : Nat → Value} {cl : Cl} {n : Nat} {sc : Scope} {X : Cx} {W : WX}
theorem Ok.hu1 (O : Ok C CV cl n sc X W) : X.A.units + 1 < cLine := by have := O.hu; omega
theorem dbg1 {x : Str} (h : dbg x = true) : (x == ("__debug__" : Str)) = false := by
  unfold dbg at h; simp only [Bool.and_eq_true, Bool.not_eq_true'] at h; exact h.1.1
theorem dbg2 {x : Str} (h : dbg x = true) : (x == ("__classdict__" : Str)) = false := by
  unfold dbg at h; simp only [Bool.and_eq_true, Bool.not_eq_true'] at h; exact h.1.2
theorem lookup_rel {scope : Scope} {env : Env} {x : Str} {k : NameKind} (hk : k ≠ .free) (h : scope.names.lookup x = some k) : (relabel scope env).names.lookup x = some k :=
  lookup_relS_keep (sc := env.scope) hk h
theorem lookup_relf {env : Env} : ∀ {names : List (Str × NameKind)} {x : Str}, names.lookup x = some .free →
    (names.map fun (n, k) => if (k == NameKind.free && env.scope.kind == .function && env.scope.names.lookup n == some .cell) then (n, NameKind.cell) else (n, k)).lookup x = some .cell ∨
    (names.map fun (n, k) => if (k == NameKind.free && env.scope.kind == .function && env.scope.names.lookup n == some .cell) then (n, NameKind.cell) else (n, k)).lookup x = some .free
  | [], _, h => by simp at h
  | (n, k₀) :: r, x, h => by
    have ih := @lookup_relf env r x
    show List.lookup x ((if (k₀ == NameKind.free && env.scope.kind == .function && env.scope.names.lookup n == some .cell) = true then (n, NameKind.cell) else (n, k₀)) :: (r.map _)) = _ ∨ List.lookup x ((if (k₀ == NameKind.free && env.scope.kind == .function && env.scope.names.lookup n == some .cell) = true then (n, NameKind.cell) else (n, k₀)) :: (r.map _)) = _
    cases hx : x == n with
    | true =>
      simp only [List.lookup_cons, hx] at h
      cases h
      split
      · left; simp only [List.lookup_cons, hx]
      · right; simp only [List.lookup_cons, hx]
    | false =>
      simp only [List.lookup_cons, hx] at h
      split <;> simp only [List.lookup_cons, hx] <;> exact ih h
theorem lookup_cases {x : Str} {sc : Scope} (h : visB sc x = true) : sc.names.lookup x = some .local ∨ sc.names.lookup x = some .cell ∨ sc.names.lookup x = some .free := by
  unfold visB at h
  split at h <;> first | (rename_i e; first | exact .inl e | exact .inr (.inl e) | exact .inr (.inr e)) | cases h
theorem lookup_loc {x : Str} {sc : Scope} (h : locB sc x = true) : sc.names.lookup x = some .local ∨ sc.names.lookup x = some .cell := by
  unfold locB at h
  split at h <;> first | (rename_i e; first | exact .inl e | exact .inr e) | cases h
theorem lookup_gl {x : Str} {sc : Scope} (h : glB sc x = true) : sc.names.lookup x = some .globalImplicit := by
  unfold glB at h
  split at h
  · assumption
  · cases h
/-- in a comprehension's block -/
theorem Ok.blk {sc' : Scope} (O : Ok C CV cl n sc X W) (hh : C.hot = false) (s : Shared) (H : Hp) (D : Addr) (cl' : List (Str × Addr)) (fp : List Addr) :
    Ok C CV cl n sc' (X.blk s H sc' (compEnvC sc' cl' D X.env) fp) (fun _ _ _ _ => False) where
  N := O.N
  nd := O.nd
  calm := O.calm
  room := O.room
  hu := O.hu
  takes := fun u s' ⟨_, _, _, _, _, _, _, _, _, _, _, _, _, _, _, _, w⟩ => w.elim
  vis := fun x h => by
    rcases lookup_cases h with e | e | e
    · exact .inl (lookup_rel (by decide) e)
    · exact .inr (.inl (lookup_rel (by decide) e))
    · rcases lookup_relf (env := X.env) e with z | z
      · exact .inr (.inl z)
      · exact .inr (.inr z)
  glo := fun x h => lookup_rel (env := X.env) (by decide) (lookup_gl h)
  loc := fun x h => by
    rcases lookup_loc h with e | e
    · have z := lookup_rel (env := X.env) (by decide) e
      exact ⟨.inl z, .inr z⟩
    · exact ⟨.inr (lookup_rel (env := X.env) (by decide) e), .inl (by show (sc'.names.lookup x == some .cell) = true; rw [e]; rfl)⟩
  lo := fun x h => lookup_rel (env := X.env) (by decide) h
  ce := fun x h => lookup_rel (env := X.env) (by decide) h
  cf := fun x h => by
    rcases h with e | e
    · exact .inl (lookup_rel (env := X.env) (by decide) e)
    · exact lookup_relf (env := X.env) e
  fre := O.fre
  cst := O.cst
  fn := O.fn
  cold := O.cold
  warm := fun h => by rw [hh] at h; cases h
  roomH := fun h => by rw [hh] at h; cases h
  fnH := O.fnH
  isx := O.isx
theorem Ok.bok {sc' : Scope} {own : List (Str × Nat)} (O : Ok C CV cl n sc X W) (h : blkC C.N sc sc' own = true) : BlkOk X.N X.env.scope sc' own := by
  have b := blkOk_by h
  rw [O.N]
  exact ⟨b.kind, b.uniq, b.ix, fun y hy e => O.cf _ (b.free y hy e), b.own⟩

/-! ### evaluating one after another -/
variable {pins : List (Addr × Obj)} {s : Shared} {σ : L2.St} {H : Hp} {en : En} {ρ : Nat → Addr} {S : Sto}
structure At (X : Cx) (pins : List (Addr × Obj)) (σ : L2.St) (ρ : Nat → Addr) (S : Sto) (H : Hp) (s : Shared) (ρ' : Nat → Addr) (S' : Sto) (H' : Hp) : Prop where
  inv : Inv X pins σ H' s
  ext : Ext ρ S H ρ' S' H'
  sim : Sim X.K ρ' S' H'
abbrev Sound (C : TC) (CV : Nat → Value) (cl : Cl) (n : Nat) (X : Cx) (W : WX) (e : Expr) (m : Ex) : Prop := PE X e (tE X.K W CV (ev cl m)) ∧ PT X e (tT X.K W CV (evT cl m))
theorem ev1 {α : Type} {e : Expr} {f : En → Sto → R PV} {k : PV → Sto → R α} {QQ : α → (Nat → Addr) → Sto → Hp → Prop} (h : PE X e (tE X.K W CV f)) (I : Inv X pins σ H s) (he : EnvOk X.K H ρ S.length en σ) (sim : Sim X.K ρ S H)
    (g : G X.K W CV σ ρ S H ((f en S).bind k) QQ) :
    wpAny (model X.prog X.w) X.A (eval e X.env) (fun v s1 => ∃ x H1 ρ1 S1 px, At X pins σ ρ S H s1 ρ1 S1 H1 ∧ RelV x v ∧ RelQ X.K H1 ρ1 S1.length px x ∧ G X.K W CV σ ρ1 S1 H1 (k px S1) QQ) X.xe s :=
  thn (h.run pins s σ H (fun x H1 => ∃ ρ1 S1 px, Ext ρ S H ρ1 S1 H1 ∧ Sim X.K ρ1 S1 H1 ∧ RelQ X.K H1 ρ1 S1.length px x ∧ G X.K W CV σ ρ1 S1 H1 (k px S1) QQ) I
    ⟨en, ρ, S, he, sim, (G.bind g).imp fun px ρ1 S1 H1 e1 s1 g1 x rx => ⟨ρ1, S1, px, e1, s1, rx, g1⟩⟩) fun v s1 ⟨x, H1, I1, r1, ρ1, S1, px, e1, sm1, rx, g1⟩ => ⟨x, H1, ρ1, S1, px, ⟨I1, e1, sm1⟩, r1, rx, g1⟩
theorem evT1 {α : Type} {e : Expr} {f : En → Sto → R Bool} {k : Bool → Sto → R α} {QQ : α → (Nat → Addr) → Sto → Hp → Prop} (h : PT X e (tT X.K W CV f)) (I : Inv X pins σ H s) (he : EnvOk X.K H ρ S.length en σ) (sim : Sim X.K ρ S H)
    (g : G X.K W CV σ ρ S H ((f en S).bind k) QQ) :
    wpAny (model X.prog X.w) X.A (isTrue e X.env (eval e X.env)) (fun b s1 => ∃ H1 ρ1 S1, At X pins σ ρ S H s1 ρ1 S1 H1 ∧ G X.K W CV σ ρ1 S1 H1 (k b S1) QQ) X.xe s :=
  thn (h.run pins s σ H (fun b H1 => ∃ ρ1 S1, Ext ρ S H ρ1 S1 H1 ∧ Sim X.K ρ1 S1 H1 ∧ G X.K W CV σ ρ1 S1 H1 (k b S1) QQ) I
    ⟨en, ρ, S, he, sim, (G.bind g).imp fun b ρ1 S1 H1 e1 s1 g1 => ⟨ρ1, S1, e1, s1, g1⟩⟩) fun v s1 ⟨H1, I1, ρ1, S1, e1, sm1, g1⟩ => ⟨H1, ρ1, S1, ⟨I1, e1, sm1⟩, g1⟩
theorem evs1 {α : Type} {es : List Expr} {f : En → Sto → R (List PV)} {k : List PV → Sto → R α} {QQ : α → (Nat → Addr) → Sto → Hp → Prop} {pos : Pos} (h : PA X es (tA X.K W CV f)) (I : Inv X pins σ H s) (he : EnvOk X.K H ρ S.length en σ) (sim : Sim X.K ρ S H)
    (g : G X.K W CV σ ρ S H ((f en S).bind k) QQ) :
    wpAny (model X.prog X.w) X.A (spliced (backTo pos (starEach es X.env))) (fun us s1 => ∃ xs H1 ρ1 S1 ps, At X pins σ ρ S H s1 ρ1 S1 H1 ∧ Vals xs us ∧ RelQs X.K H1 ρ1 S1.length ps xs ∧ G X.K W CV σ ρ1 S1 H1 (k ps S1) QQ) X.xe s :=
  thn (h.run pos pins s σ H (fun xs H1 => ∃ ρ1 S1 ps, Ext ρ S H ρ1 S1 H1 ∧ Sim X.K ρ1 S1 H1 ∧ RelQs X.K H1 ρ1 S1.length ps xs ∧ G X.K W CV σ ρ1 S1 H1 (k ps S1) QQ) I
    ⟨en, ρ, S, he, sim, (G.bind g).imp fun ps ρ1 S1 H1 e1 s1 g1 xs rx => ⟨ρ1, S1, ps, e1, s1, rx, g1⟩⟩) fun us s1 ⟨xs, H1, I1, r1, ρ1, S1, ps, e1, sm1, rx, g1⟩ => ⟨xs, H1, ρ1, S1, ps, ⟨I1, e1, sm1⟩, r1, rx, g1⟩
/-- an end that gives a value -/
theorem fin {Q : VK} {px : PV} {x : V} {u : Value} (I : Inv X pins σ H s) (sim : Sim X.K ρ S H) (r : RelV x u) (rx : RelQ X.K H ρ S.length px x) (g : G X.K W CV σ ρ S H (R.ok px S) (QV X.K Q)) : EP X pins σ Q u s := ⟨x, H, I, r, g ρ H Ext.refl sim x rx⟩
theorem finB {Q : VK} {b : Bool} (I : Inv X pins σ H s) (sim : Sim X.K ρ S H) (g : G X.K W CV σ ρ S H (okP (.bool b) S) (QV X.K Q)) : EP X pins σ Q (.bool b) s := ⟨.bl b, H, I, rfl, G.okp g sim (.bl b)⟩
theorem R.bind_assoc {α β γ : Type} (r : R α) (f : α → Sto → R β) (k : β → Sto → R γ) : (r.bind f).bind k = r.bind fun a S => (f a S).bind k := by cases r <;> rfl
theorem okb_tru (b : Bool) (S : Sto) : (okP (.bool b) S).bind truV = .ok b S := rfl
def plM : Ex → Bool
  | .cmp _ _ _ => false
  | .and' _ _ => false
  | .or' _ _ => false
  | .not' _ => false
  | _ => true
theorem evT_plain (cl : Cl) (m : Ex) (en : En) (S : Sto) (h : plM m = true) : evT cl m en S = .no ∨ evT cl m en S = (ev cl m en S).bind truV := by
  cases m with
  | v i =>
    right
    simp only [ev, evT]
    split <;> rfl
  | c k => right; simp only [ev, evT]; rfl
  | bin o a b => right; simp only [ev, evT, R.bind_assoc]
  | ix a i => right; simp only [ev, evT, R.bind_assoc]
  | call f es => right; simp only [ev, evT, R.bind_assoc]
  | bi b es => right; simp only [ev, evT, R.bind_assoc]
  | mth m o es =>
    right
    simp only [ev, evT, R.bind_assoc]
    congr 1
    funext x S
    split
    · simp only [R.bind_assoc]
    · rfl
  | isi a t => right; simp only [ev, evT, R.bind_assoc, okb_tru]
  | isx a ys ns => right; simp only [ev, evT, R.bind_assoc, okb_tru]
  | cmp _ _ _ => cases h
  | and' _ _ => cases h
  | or' _ _ => cases h
  | not' _ => cases h
  | _ => left; simp only [evT]
theorem pt_plain {e : Expr} {m : Ex} (h : PE X e (tE X.K W CV (ev cl m))) (hp : plE e = true) (hm : plM m = true) : PT X e (tT X.K W CV (evT cl m)) := by
  refine ⟨fun pins s σ H Q I hq => ?_⟩
  obtain ⟨en, ρ, S, he, sim, g⟩ := hq
  rcases evT_plain cl m en S hm with z | z
  · rw [z] at g; exact g.elim
  · rw [z] at g
    refine isTrue_plain (thn (ev1 h I he sim g) fun v s1 ⟨x, H1, ρ1, S1, px, A1, rv, rx, g1⟩ => ?_) (isTrue_pl hp _)
    exact tru_ok pins s1 σ H1 x v Q A1.inv rv (tru_okV A1.sim rx g1)
theorem wp_imp {Q Q' : Value → Shared → Prop} {t : Sem Value} {E : Value → Shared → Prop} {A : Around} {M : Model} {s : Shared} (h : wpAny M A t Q E s) (f : ∀ v s, Q v s → Q' v s) : wpAny M A t Q' E s := thn h f
theorem subTail_of {prog : Program} {w : World} {A : Around} {E : Value → Shared → Prop} {s₂ : Shared} {value slice : Expr} {o i : Value} {T id : String} {Q : Value → Shared → Prop}
    (hl : typeLookup (.type T) "__getitem__" = pure (some (.builtin id))) (hs : subscripted slice false o i = operate [o, i] (getItem o i)) (hT : s₂.TypeIs o T) (h₂ : wpAny (model prog w) A (getItem o i) Q E s₂) :
    wpAny (model prog w) A (subscriptTail value slice o i) Q E s₂ := by
  unfold subscriptTail
  refine wpAny_bind ?_
  rw [getitemInPython_of_ne hT.not_modules]
  refine wpAny_bind (wpAny_specialOf hT hl ?_)
  have fin : wpAny (model prog w) A (subscripted slice false o i) (fun r s₃ => wpAny (model prog w) A (letTemporaryGo value o r >>= fun _ => pure r) Q E s₃) E s₂ := by
    rw [hs]
    exact wpAny_operating (wpAny_mono h₂ (fun r s₃ h₃ => wpAny_bind (wpAny_letTemporaryGo (wpAny_pure h₃))) fun _ _ x => x)
  first
    | exact wpAny_pure (wpAny_bind fin)
    | exact wpAny_bind (wpAny_pure (wpAny_bind fin))
    | exact wpAny_bind fin
theorem ixtail_ok {Q : VK} {a b : Expr} {px pi : PV} {x i : V} {v u : Value} (hu : X.A.units + 1 < cLine) (hs : isSl b = false) (I : Inv X pins σ H s) (sim : Sim X.K ρ S H) (rx : RelQ X.K H ρ S.length px x) (ri : RelQ X.K H ρ S.length pi i) (rv : RelV x v) (ru : RelV i u)
    (g : G X.K W CV σ ρ S H (ixV px pi S) (QV X.K Q)) : wpAny (model X.prog X.w) X.A (subscriptTail a b v u) (EP X pins σ Q) X.xe s := by
  have other : (∀ l kvs, px = .loc l → S[l]? ≠ some (.dct kvs)) → wpAny (model X.prog X.w) X.A (subscriptTail a b v u) (EP X pins σ Q) X.xe s := fun nd =>
    ix_seq a b pins s σ H x i v u Q I rv ru (ix_ok sim rx ri nd g) (sub_ns hs _ _)
  cases px with
  | p d => exact other fun l kvs e => by cases e
  | mt d => exact other fun l kvs e => by cases e
  | exc d => exact other fun l kvs e => by cases e
  | loc l =>
    by_cases h : ∃ kvs, S[l]? = some (.dct kvs)
    · obtain ⟨kvs, h⟩ := h
      obtain ⟨a', v', ex, dg, q⟩ := dix_ok sim rx ri h g
      subst ex
      obtain rfl : v = Value.ref a' := rv
      exact subTail_of PySem.F.slot_dict_getitem.lookup (sub_ns hs _ _) (dict_typeIs I dg) (d_getItem hu I dg ru fun w' s3 I3 rw' => ⟨v', H, I3, rw', q⟩)
    · exact other fun l' kvs e q => h ⟨kvs, by cases e; exact q⟩
theorem revStr (n : Nat) : Builtin.Str.strSliceIndices none none (-1) n = (List.range n).reverse := by
  have e : Builtin.Str.strSliceIndices none none (-1) n = sliceRange ((n : Int) - 1) (-1) (-1) := by
    unfold Builtin.Str.strSliceIndices
    simp
  rw [e, PySem.W.krv_sliceRange, PySem.W.krv_range]
theorem rev_ok {e : Expr} {f : En → Sto → R PV} {k : Nat} {p1 p2 p3 pos : Pos} {Q : VK} (ha : PE X e (tE X.K W CV f)) (I : Inv X pins σ H s) (he : EnvOk X.K H ρ S.length en σ) (sim : Sim X.K ρ S H)
    (g : G X.K W CV σ ρ S H ((f en S).bind fun x S => revV x S) (QV X.K Q)) :
    wpAny (model X.prog X.w) X.A (eval (.Subscript e (.Slice none none (some (.UnaryOp .USub (.Constant (.int 1) k p1) p2)) p3) pos) X.env) (EP X pins σ Q) X.xe s := by
  refine Subscript_ (thn (ev1 ha I he sim g) fun v s1 ⟨x, H1, ρ1, S1, px, A1, r1, rx, g1⟩ => ?_)
  have hst : PO X (some (.UnaryOp .USub (.Constant (.int 1) k p1) p2)) (tPart (tUn (rU fun i => .int (-i)) (tC (.int 1)))) := po_some (pe_un un_neg pe_int)
  refine wpAny_Slice (thn (po_none.run pins s1 σ H1 (fun o H2 => o = none ∧ H2 = H1) A1.inv ⟨rfl, rfl⟩) fun vl s2 ⟨l, H2, I2, pl, el, e2⟩ => ?_)
  subst el e2
  refine thn (po_none.run pins s2 σ H2 (fun o H3 => o = none ∧ H3 = H2) I2 ⟨rfl, rfl⟩) fun vu s3 ⟨u, H3, I3, pu, eu, e3⟩ => ?_
  subst eu e3
  refine thn (hst.run pins s3 σ H3 (fun o H4 => o = some (-1) ∧ H4 = H3) I3 ⟨1, rfl, -1, rfl, rfl, rfl⟩) fun vs s4 ⟨o, H4, I4, ps, eo, e4⟩ => ?_
  subst eo e4
  have I5 : Inv X pins σ H4 { s4 with heap := s4.heap.push { cls := .type "slice", data := .fields #[vl, vu, vs] } } := I4.kept (t' := s4.toks) fun b ob q => Heap.get?_push_of_some _ q
  show wpAny (model X.prog X.w) X.A (subscriptTail e (.Slice none none (some (.UnaryOp .USub (.Constant (.int 1) k p1) p2)) p3) v (.ref s4.heap.objs.size)) (EP X pins σ Q) X.xe { s4 with heap := s4.heap.push { cls := .type "slice", data := .fields #[vl, vu, vs] } }
  unfold revV at g1
  split at g1
  · cases rx with | loc l =>
    split at g1
    · rename_i h
      obtain ⟨xs, q1, rs⟩ := A1.sim.lst h
      cases r1
      obtain ⟨its, r, ht, hz⟩ := I5.list (SqL.of q1)
      have hlen := r.length
      refine tail_any (ops := [.ref (ρ1 _), .ref s4.heap.objs.size]) ht.isList.typeIs (PySem.slot_list_getitem.lookup) ?_ (by with_unfolding_all rfl)
      refine wpAny_getItem_list_slice ht.isList (Heap.IsSliceOf.new _ vl vu vs) pl pu ps (by decide) ?_ (by rw [List.size_toArray]; omega)
      rw [PySem.W.krv_pick]
      refine ⟨.ref _, _, I5.laid (t' := s4.toks) (o := .lst xs.reverse) (fun b ob q => Heap.get?_push_of_some _ q) (Nat.le_refl _) ?_, rfl, G.newC g1 A1.sim rs.reverse (I5.hok.fresh (Nat.le_refl _))⟩
      exact ⟨by rw [List.length_reverse]; exact hz, _, 0, r.reverse, Heap.get?_push_size _ rfl⟩
    · exact g1.elim
  · cases rx with | p rp =>
    cases rp
    split at g1
    · rename_i z c
      obtain ⟨t, rfl⟩ := r1
      obtain ⟨l', el, ep⟩ := IsPart.raw pl
      obtain ⟨u', eu, ep2⟩ := IsPart.raw pu
      obtain ⟨w', ew, ep3⟩ := IsPart.raw ps
      subst el eu ew
      refine tail_any (ops := [.str z t, .ref s4.heap.objs.size]) (typeIs_str _ _ _) PySem.F.slot_str_getitem.lookup ?_ (by with_unfolding_all rfl)
      refine wpAny_getItem_str_slice (l := l') (u := u') (st := w') ⟨_, Heap.get?_push_size _ rfl, rfl, rfl⟩ (by rw [ep3]; rfl) ?_
      have hidx : slicePicked z l' u' w' = (List.range z.length).reverse := by
        unfold slicePicked
        rw [ep, ep2, ep3]
        exact revStr _
      have hfm : (slicePicked z l' u' w').filterMap (z.cps[·]?) = z.cps.toList.reverse := by
        rw [hidx, List.filterMap_reverse]
        exact congrArg List.reverse (PySem.W.krv_all z.cps)
      unfold sliceMade
      rw [hfm, ep3]
      rw [if_neg (by intro q; cases (Bool.and_eq_true_iff.mp q).1)]
      have q := G.okp g1 A1.sim (.str _)
      exact ⟨by show (z.cps.toList.reverse.toArray).size ≤ sizeLine; rw [List.size_toArray, List.length_reverse, Array.length_toList]; exact sz c, .str _, H4, I5.tok _, ⟨_, rfl⟩, q⟩
    · exact g1.elim
  · exact g1.elim
end
end Kp

set_option Elab.async false
set_option linter.all false
set_option maxRecDepth 100000
set_option maxHeartbeats 4000000
set_option autoImplicit false
/-! K7: what is walked. -/
namespace Kp
open PySem PySem.Spec PyProof.Rows L2
variable [Xc]

def SameH (H H' : Hp) : Prop := ∀ b o, H b = some o → H' b = some o
theorem SameH.keep {H H' : Hp} (h : SameH H H') : Keep H H' := fun b o q _ => h b o q
theorem Sim.same {K : PySem.W.Frag} {ρ : Nat → Addr} {S : Sto} {H H' : Hp} (sim : Sim K ρ S H) (h : SameH H H') : Sim K ρ S H' :=
  ⟨fun i c e => by
    obtain ⟨o, q, _⟩ := (sim.cell i c e).some
    exact (sim.cell i c e).keep h.keep ((h _ _ q).trans q.symm), sim.inj⟩
/-- the iterator walks these items, as long as the lists that are watched stand -/
def Wk (K : PySem.W.Frag) (ρ0 : Nat → Addr) (S0 : Sto) (H0 : Hp) (J : It) (its : List PV) (w : Wt) : Prop :=
  ∀ ρ' S' H', Ext ρ0 S0 H0 ρ' S' H' → Sim K ρ' S' H' → wtOk w S' = true → ∀ i,
    (∀ v, its[i]? = some v → J.go i H' ∧ ∀ x H'', J.yld i H' x H'' → SameH H' H'' ∧ RelQ K H'' ρ' S'.length v x) ∧ (its.length ≤ i → J.stop i H')
def tI (K : PySem.W.Frag) (W : WX) (CV : Nat → Value) (f : En → Sto → R Its') : TI := fun σ H R => ∃ en ρ S, EnvOk K H ρ S.length en σ ∧ Sim K ρ S H ∧ G K W CV σ ρ S H (f en S) (fun q ρ' S' H' => ∀ J, Wk K ρ' S' H' J q.1 q.2 → R J H')
theorem pdBs_all : ∀ {xs ys : List P}, ys.length = xs.length → (ys.zip xs).all (fun q => pdB q.1 q.2) = true → ys = xs
  | [], [], _, _ => rfl
  | x :: xs, y :: ys, h, h2 => by
    simp only [List.zip_cons_cons, List.all_cons, Bool.and_eq_true] at h2
    rw [pdB_eq y x h2.1, pdBs_all (by simpa using h) h2.2]
theorem wtOk_cons {i : Nat} {xs : List P} {r : Wt} {S : Sto} (h : wtOk ((i, xs) :: r) S = true) : S[i]? = some (.lst xs) ∧ wtOk r S = true := by
  unfold wtOk at h
  rw [Bool.and_eq_true] at h
  refine ⟨?_, h.2⟩
  have h1 := h.1
  split at h1
  · rename_i ys e
    simp only [Bool.and_eq_true, decide_eq_true_eq] at h1
    rw [pdBs_all h1.1 h1.2] at e
    exact e
  · cases h1
theorem pdB_refl : ∀ (a : P), PyData.canLay0 a = true → pdB a a = true := by
  intro a h
  exact (show ∀ a : P, a.canLay0 = true → pdB a a = true from by
    intro a
    exact pdr a) a h
where
  pdr : ∀ a : P, a.canLay0 = true → pdB a a = true
  | .none, _ => rfl
  | .bool b, _ => by simp [pdB]
  | .int b, _ => by simp [pdB]
  | .str b, _ => by simp [pdB]
  | .list xs, h => by simp only [pdB]; exact pdrs xs h
  | .tuple xs, h => by simp only [pdB]; exact pdrs xs h
  | .dict _, h => nomatch h
  pdrs : ∀ xs : List P, PyData.canLayAll0 xs = true → pdBs xs xs = true
  | [], _ => rfl
  | x :: xs, h => by
    have h' : x.canLay0 = true ∧ PyData.canLayAll0 xs = true := by simpa [PyData.canLayAll0] using h
    simp only [pdBs]
    rw [pdr x h'.1, pdrs xs h'.2]; rfl
section
variable {K : PySem.W.Frag} {ρ0 : Nat → Addr} {S0 : Sto} {H0 : Hp}
theorem map_p_get {ds : List P} {i : Nat} {v : PV} (h : (ds.map PV.p)[i]? = some v) : ∃ d, ds[i]? = some d ∧ v = .p d := by
  rw [List.getElem?_map] at h
  cases q : ds[i]? with
  | none => rw [q] at h; cases h
  | some d => rw [q] at h; cases h; exact ⟨d, rfl, rfl⟩
/-- a list of the store -/
theorem wk_list {l : Nat} {ds : List P} (hl : l < S0.length) : Wk K ρ0 S0 H0 (Itl K (ρ0 l)) (ds.map .p) [(l, ds)] := by
  intro ρ' S' H' e sim w i
  obtain ⟨hs, _⟩ := wtOk_cons w
  obtain ⟨xs, q, r⟩ := sim.cell l _ hs
  rw [e.same l hl] at q
  refine ⟨fun v hv => ?_, fun hi => ⟨xs, SqL.of q, by rw [← r.length]; simpa using hi⟩⟩
  obtain ⟨d, hd, rfl⟩ := map_p_get hv
  obtain ⟨x, hx, rx⟩ := r.get hd
  refine ⟨⟨xs, x, SqL.of q, hx⟩, fun y H'' hy => ?_⟩
  obtain ⟨e1, hy⟩ := hy
  subst e1
  have := hy xs (SqL.of q)
  rw [hx] at this; cases this
  exact ⟨fun _ _ z => z, .p rx⟩
theorem wk_frz {a : Addr} {ds : List P} {xs : List V} (h : FrzL K H0 a xs) (r0 : RelPs K H0 ds xs) : Wk K ρ0 S0 H0 (Itl K a) (ds.map .p) [] := by
  intro ρ' S' H' e sim w i
  have q := (h.keep e.keep).sq
  have r := r0.keep e.keep
  refine ⟨fun v hv => ?_, fun hi => ⟨xs, q, by rw [← r.length]; simpa using hi⟩⟩
  obtain ⟨d, hd, rfl⟩ := map_p_get hv
  obtain ⟨x, hx, rx⟩ := r.get hd
  refine ⟨⟨xs, x, q, hx⟩, fun y H'' hy => ?_⟩
  obtain ⟨e1, hy⟩ := hy
  subst e1
  have := hy xs q
  rw [hx] at this; cases this
  exact ⟨fun _ _ z => z, .p rx⟩
theorem wk_tup {a : Addr} {ds : List P} {xs : List V} (h : SqT K H0 a xs) (r0 : RelPs K H0 ds xs) : Wk K ρ0 S0 H0 (Itt K a) (ds.map .p) [] := by
  intro ρ' S' H' e sim w i
  have q := sqT_keep e.keep h
  have r := r0.keep e.keep
  refine ⟨fun v hv => ?_, fun hi => ⟨xs, q, by rw [← r.length]; simpa using hi⟩⟩
  obtain ⟨d, hd, rfl⟩ := map_p_get hv
  obtain ⟨x, hx, rx⟩ := r.get hd
  refine ⟨⟨xs, x, q, hx⟩, fun y H'' hy => ?_⟩
  obtain ⟨e1, hy⟩ := hy
  subst e1
  have := hy xs q
  rw [hx] at this; cases this
  exact ⟨fun _ _ z => z, .p rx⟩
theorem wk_str {z : Str} : Wk K ρ0 S0 H0 (Its z) (z.cps.toList.map fun c => .p (.str ⟨#[c]⟩)) [] := by
  intro ρ' S' H' e sim w i
  refine ⟨fun v hv => ?_, fun hi => (by simpa using hi : z.cps.size ≤ i)⟩
  rw [List.getElem?_map] at hv
  cases q : z.cps.toList[i]? with
  | none => rw [q] at hv; cases hv
  | some c =>
    rw [q] at hv; cases hv
    have q' : z.cps[i]? = some c := by simpa using q
    refine ⟨(by have := getE_lt q; simpa using this : i < z.cps.size), fun y H'' hy => ?_⟩
    obtain ⟨e1, c', hc, hv⟩ := hy
    subst e1 hv
    rw [q'] at hc; cases hc
    exact ⟨fun _ _ z => z, .p (.str _)⟩
theorem wk_rng {lo : Int} {n : Nat} : Wk K ρ0 S0 H0 (Itr lo n) ((List.range n).map fun (k : Nat) => .p (.int (lo + k))) [] := by
  intro ρ' S' H' e sim w i
  refine ⟨fun v hv => ?_, fun hi => (by simpa using hi : n ≤ i)⟩
  rw [List.getElem?_map] at hv
  cases q : (List.range n)[i]? with
  | none => rw [q] at hv; cases hv
  | some k =>
    rw [q] at hv; cases hv
    have lt : i < n := by have := getE_lt q; simpa using this
    rw [List.getElem?_range lt] at q
    cases q
    refine ⟨lt, fun y H'' hy => ?_⟩
    obtain ⟨e1, e2⟩ := hy
    subst e1 e2
    exact ⟨fun _ _ z => z, .p (.int _)⟩
theorem wk_rngR {n : Nat} {lo : Int} (hlo : lo = (0 : Int) + (n : Int) - 1) : Wk K ρ0 S0 H0 (Itc lo (-1) n) (((List.range n).map fun (k : Nat) => PV.p (.int ((0 : Int) + k))).reverse) [] := by
  intro ρ' S' H' e sim w i
  refine ⟨fun v hv => ?_, fun hi => (by simpa using hi : n ≤ i)⟩
  have lt : i < n := by have := getE_lt hv; simpa using this
  rw [List.getElem?_reverse (by simpa using lt), List.getElem?_map] at hv
  simp only [List.length_map, List.length_range] at hv
  rw [List.getElem?_range (by omega)] at hv
  cases hv
  refine ⟨lt, fun y H'' hy => ?_⟩
  obtain ⟨e1, e2⟩ := hy
  subst e1 e2
  refine ⟨fun _ _ z => z, ?_⟩
  have z : lo + (i : Nat) * (-1) = (0 : Int) + ((n - 1 - i : Nat) : Int) := by omega
  rw [z]
  exact .p (.int _)
theorem wk_revL {l : Nat} {ds : List P} (hl : l < S0.length) {m : Nat} (hm : ds.length = m) : Wk K ρ0 S0 H0 (Itv K (ρ0 l) m) (ds.reverse.map .p) [(l, ds)] := by
  intro ρ' S' H' e sim w i
  subst hm
  obtain ⟨hs, _⟩ := wtOk_cons w
  obtain ⟨xs, q, r⟩ := sim.cell l _ hs
  rw [e.same l hl] at q
  refine ⟨fun v hv => ?_, fun hi => (by simpa using hi : ds.length ≤ i)⟩
  obtain ⟨d, hd, rfl⟩ := map_p_get hv
  have lt : i < ds.length := by have := getE_lt hd; simpa using this
  rw [List.getElem?_reverse lt] at hd
  obtain ⟨x, hx, rx⟩ := r.get hd
  refine ⟨⟨lt, xs, x, SqL.of q, hx⟩, fun y H'' hy => ?_⟩
  obtain ⟨e1, hy⟩ := hy
  subst e1
  have := hy xs (SqL.of q)
  rw [hx] at this; cases this
  exact ⟨fun _ _ z => z, .p rx⟩
theorem wk_revT {a : Addr} {ds : List P} {xs : List V} (h : SqT K H0 a xs) (r0 : RelPs K H0 ds xs) : Wk K ρ0 S0 H0 (RT.ItvT K a xs.length) (ds.reverse.map .p) [] := by
  intro ρ' S' H' e sim w i
  have q := sqT_keep e.keep h
  have r := r0.keep e.keep
  have hm := r.length
  refine ⟨fun v hv => ?_, fun hi => (by rw [← hm]; simpa using hi : xs.length ≤ i)⟩
  obtain ⟨d, hd, rfl⟩ := map_p_get hv
  have lt : i < ds.length := by have := getE_lt hd; simpa using this
  rw [List.getElem?_reverse lt] at hd
  obtain ⟨x, hx, rx⟩ := r.get hd
  rw [hm] at hx
  refine ⟨⟨by omega, xs, x, q, hx⟩, fun y H'' hy => ?_⟩
  obtain ⟨e1, hy⟩ := hy
  subst e1
  have := hy xs q
  rw [hx] at this; cases this
  exact ⟨fun _ _ z => z, .p rx⟩
theorem wk_zip {l m : Nat} {ds es : List P} (hl : l < S0.length) (hm : m < S0.length) (hlen : ds.length = es.length) : Wk K ρ0 S0 H0 (Itz K (ρ0 l) (ρ0 m)) ((ds.zip es).map fun q => .p (.tuple [q.1, q.2])) [(l, ds), (m, es)] := by
  intro ρ' S' H' e sim w i
  obtain ⟨hs, w2⟩ := wtOk_cons w
  obtain ⟨hs2, _⟩ := wtOk_cons w2
  obtain ⟨xs, q, r⟩ := sim.cell l _ hs
  obtain ⟨ys, q2, r2⟩ := sim.cell m _ hs2
  rw [e.same l hl] at q
  rw [e.same m hm] at q2
  refine ⟨fun v hv => ?_, fun hi => ⟨xs, ys, SqL.of q, SqL.of q2, .inl (by rw [← r.length]; simp only [List.length_map, List.length_zip] at hi; omega)⟩⟩
  rw [List.getElem?_map] at hv
  cases qz : (ds.zip es)[i]? with
  | none => rw [qz] at hv; cases hv
  | some p =>
    rw [qz] at hv; cases hv
    obtain ⟨d1, d2⟩ := p
    rw [List.getElem?_zip_eq_some] at qz
    obtain ⟨x, hx, rx⟩ := r.get qz.1
    obtain ⟨y, hy, ry⟩ := r2.get qz.2
    refine ⟨⟨xs, ys, x, y, SqL.of q, SqL.of q2, hx, hy⟩, fun v H'' hv => ?_⟩
    obtain ⟨T, x', y', rfl, hT, rfl, h1, h2⟩ := hv
    have a1 := h1 xs (SqL.of q)
    have a2 := h2 ys (SqL.of q2)
    rw [hx] at a1; cases a1
    rw [hy] at a2; cases a2
    have sh : SameH H' (upd H' T (.tup [x, y])) := fun b o z => by rw [upd_ne (ne_of_none z hT)]; exact z
    exact ⟨sh, .p (.tup (SqT.of upd_same) (.cons (rx.keep sh.keep) (.cons (ry.keep sh.keep) .nil)))⟩
end
section
variable {C : TC} {CV : Nat → Value} {cl : Cl} {n : Nat} {sc : Scope} {X : Cx} {W : WX}
theorem int_of {H : Hp} {ρ : Nat → Addr} {S : Sto} {σ : L2.St} {px : PV} {x : V} {f : Int → R Its'} {Q : Its' → (Nat → Addr) → Sto → Hp → Prop} (rx : RelQ X.K H ρ S.length px x) (g : G X.K W CV σ ρ S H (intR px S f) Q) : ∃ i, x = .int i ∧ G X.K W CV σ ρ S H (f i) Q := by
  unfold intR at g
  split at g
  · cases rx with | p r => cases r; exact ⟨_, rfl, g⟩
  · exact g.elim
theorem rng_of {H : Hp} {ρ : Nat → Addr} {S : Sto} {σ : L2.St} {a b : Int} {Q : Its' → (Nat → Addr) → Sto → Hp → Prop} (g : G X.K W CV σ ρ S H (rngI a b S) Q) (sim : Sim X.K ρ S H) :
    (-(2 ^ 62) ≤ a ∧ a < 2 ^ 62 ∧ -(2 ^ 62) ≤ b ∧ b < 2 ^ 62) ∧ Q ((List.range (b - a).toNat).map fun (k : Nat) => .p (.int (a + k)), []) ρ S H := by
  unfold rngI at g
  split at g
  · rename_i h; exact ⟨h, g ρ H Ext.refl sim⟩
  · exact g.elim
/-- a value that is walked: a list, a tuple, a text -/
theorem pi_val {tg e : Expr} {m : Ex} (O : Ok C CV cl n sc X W) (h : PE X e (tE X.K W CV (ev cl m))) : PI X tg e (tI X.K W CV (evI cl (.val m))) := by
  refine ⟨fun pins s σ H R I hq => ?_⟩
  obtain ⟨en, ρ, S, he, sim, g⟩ := hq
  simp only [evI] at g
  cases hr : ev cl m en S with
  | no => rw [hr] at g; exact g.elim
  | ex c S' =>
    have k : tE X.K W CV (ev cl m) σ H fun _ _ => False := ⟨en, ρ, S, he, sim, by rw [hr] at g ⊢; exact g⟩
    exact thn (h.run pins s σ H _ I k) fun v s1 ⟨_, _, _, _, f⟩ => f.elim
  | ok px S1 =>
    have go : ∀ {J : TE → TI}, (∀ (Q : VK), ((∃ x H1 ρ1, Ext ρ S H ρ1 S1 H1 ∧ Sim X.K ρ1 S1 H1 ∧ RelQ X.K H1 ρ1 S1.length px x ∧ Q x H1) → False) → False) → True := fun _ => trivial
    have base : ∀ (Q : VK), (∀ ρ1 H1 x, Ext ρ S H ρ1 S1 H1 → Sim X.K ρ1 S1 H1 → RelQ X.K H1 ρ1 S1.length px x → Q x H1) → tE X.K W CV (ev cl m) σ H Q := fun Q f =>
      ⟨en, ρ, S, he, sim, by rw [hr]; exact fun ρ1 H1 e1 s1 x rx => f ρ1 H1 x e1 s1 rx⟩
    rw [hr] at g
    have g : G X.K W CV σ ρ S H (valI px S1) (fun q ρ' S' H' => ∀ J, Wk X.K ρ' S' H' J q.1 q.2 → R J H') := g
    unfold valI at g
    split at g
    · split at g
      · rename_i l _ ds hd
        refine (pi_list h).run pins s σ H R I (base _ fun ρ1 H1 x e1 s1 rx => ?_)
        cases rx with | loc hl =>
        obtain ⟨xs, q1, r1⟩ := s1.lst hd
        exact ⟨_, rfl, ⟨xs, SqL.of q1⟩, g ρ1 H1 e1 s1 _ (wk_list hl)⟩
      · exact g.elim
    · refine (pi_tup h).run pins s σ H R I (base _ fun ρ1 H1 x e1 s1 rx => ?_)
      cases rx with | p r =>
      cases r with | tup a b =>
      exact ⟨_, rfl, ⟨_, a⟩, g ρ1 H1 e1 s1 _ (wk_tup a b)⟩
    · refine (pi_list h).run pins s σ H R I (base _ fun ρ1 H1 x e1 s1 rx => ?_)
      cases rx with | p r =>
      cases r with | lst a b =>
      exact ⟨_, rfl, ⟨_, a.sq⟩, g ρ1 H1 e1 s1 _ (wk_frz a b)⟩
    · refine (pi_str h).run pins s σ H R I (base _ fun ρ1 H1 x e1 s1 rx => ?_)
      cases rx with | p r =>
      cases r
      exact ⟨_, rfl, g ρ1 H1 e1 s1 _ wk_str⟩
    · exact g.elim
theorem snd_ns {tg it : Expr} {m : Ix} (ht : TrI C sc tg it m) : isSet it = false := by
  cases ht <;> first | assumption | rfl
section
variable {tg a b : Expr} {x y : Ex} {p p2 pos pos2 : Pos}
theorem pi_r1 (O : Ok C CV cl n sc X W) (hg : glB sc ("range" : Str) = true) (hf : C.fre ("range" : Str) = true) (h : TrE C sc a x) (ih : PE X a (tE X.K W CV (ev cl x))) : PI X tg (.Call (.Name ("range" : Str) p) [a] [] pos) (tI X.K W CV (evI cl (.rng1 x))) := by
  refine ⟨fun pins s σ H R I hq => ?_⟩
  obtain ⟨en, ρ, S, he, sim, g⟩ := hq
  simp only [evI] at g
  refine (pi_range1 (O.glo _ hg) (O.fre _ hf) (pa_cons ih pa_nil (starE h.nst)) (starE h.nst)).run pins s σ H R I ?_
  refine ⟨en, ρ, S, he, sim, (G.bind g).imp fun px ρ1 S1 H1 e1 s1 g1 y ry => ?_⟩
  obtain ⟨i, rfl, g2⟩ := int_of ry g1
  obtain ⟨b, q⟩ := rng_of g2 s1
  refine ⟨i, rfl, b.2.2.1, b.2.2.2, ?_⟩
  have := q _ wk_rng
  simpa using this
theorem pi_r2 (O : Ok C CV cl n sc X W) (hg : glB sc ("range" : Str) = true) (hf : C.fre ("range" : Str) = true) (h : TrE C sc a x) (h2 : TrE C sc b y) (ih : PE X a (tE X.K W CV (ev cl x))) (ih2 : PE X b (tE X.K W CV (ev cl y))) :
    PI X tg (.Call (.Name ("range" : Str) p) [a, b] [] pos) (tI X.K W CV (evI cl (.rng2 x y))) := by
  refine ⟨fun pins s σ H R I hq => ?_⟩
  obtain ⟨en, ρ, S, he, sim, g⟩ := hq
  simp only [evI] at g
  refine (pi_range2 (O.glo _ hg) (O.fre _ hf) (pa_cons ih (pa_cons ih2 pa_nil (starE h2.nst)) (starE h.nst)) (by rw [starE h.nst, starE h2.nst]; rfl) (starE h2.nst)).run pins s σ H R I ?_
  refine ⟨en, ρ, S, he, sim, (G.bind g).imp fun px ρ1 S1 H1 e1 s1 g1 y ry => ?_⟩
  refine ⟨en, ρ1, S1, he.ext e1, s1, (G.bind g1).imp fun py ρ2 S2 H2 e2 s2 g2 z rz => ?_⟩
  obtain ⟨i, rfl, g3⟩ := int_of (ry.ext e2) g2
  obtain ⟨j, rfl, g4⟩ := int_of rz g3
  obtain ⟨b, q⟩ := rng_of g4 s2
  exact ⟨i, j, rfl, b, q _ wk_rng⟩
theorem pi_z {elts : List Expr} {kk : Nat} {tpos : Pos} (O : Ok C CV cl n sc X W) (hg : glB sc ("zip" : Str) = true) (hf : C.fre ("zip" : Str) = true) (h : TrE C sc a x) (h2 : TrE C sc b y) (ih : PE X a (tE X.K W CV (ev cl x))) (ih2 : PE X b (tE X.K W CV (ev cl y))) :
    PI X (.Tuple elts kk tpos) (.Call (.Name ("zip" : Str) p) [a, b] [] pos) (tI X.K W CV (evI cl (.zip x y))) := by
  refine ⟨fun pins s σ H R I hq => ?_⟩
  obtain ⟨en, ρ, S, he, sim, g⟩ := hq
  simp only [evI] at g
  refine (pi_zip (O.glo _ hg) (O.fre _ hf) (pa_cons ih (pa_cons ih2 pa_nil (starE h2.nst)) (starE h.nst)) (starE h.nst) (by rw [starE h2.nst]; rfl)).run pins s σ H R I ?_
  refine ⟨en, ρ, S, he, sim, (G.bind g).imp fun px ρ1 S1 H1 e1 s1 g1 y ry => ?_⟩
  refine ⟨en, ρ1, S1, he.ext e1, s1, (G.bind g1).imp fun py ρ2 S2 H2 e2 s2 g2 z rz => ?_⟩
  have ry2 := ry.ext e2
  unfold zipI at g2
  split at g2
  · cases ry2 with | loc hl => cases rz with | loc hm =>
    split at g2
    · rename_i q1 q2
      split at g2
      · rename_i hlen
        obtain ⟨xs, w1, r1⟩ := s2.lst q1
        obtain ⟨ys, w2, r2⟩ := s2.lst q2
        exact ⟨_, _, xs, ys, rfl, SqL.of w1, SqL.of w2, g2 ρ2 H2 Ext.refl s2 _ (wk_zip hl hm hlen)⟩
      · exact g2.elim
    · exact g2.elim
  · exact g2.elim
theorem pi_rr (O : Ok C CV cl n sc X W) (hg : glB sc ("range" : Str) = true) (hf : C.fre ("range" : Str) = true) (hg2 : glB sc ("reversed" : Str) = true) (hf2 : C.fre ("reversed" : Str) = true) (h : TrE C sc a x) (ih : PE X a (tE X.K W CV (ev cl x))) :
    PI X tg (.Call (.Name ("reversed" : Str) p) [.Call (.Name ("range" : Str) p2) [a] [] pos2] [] pos) (tI X.K W CV (evI cl (.revR x))) := by
  refine ⟨fun pins s σ H R I hq => ?_⟩
  obtain ⟨en, ρ, S, he, sim, g⟩ := hq
  simp only [evI] at g
  refine (pi_revR (O.glo _ hg2) (O.fre _ hf2) (prg_1 (O.glo _ hg) (O.fre _ hf) ih (starE h.nst)) (starE rfl)).run pins s σ H R I ?_
  refine ⟨en, ρ, S, he, sim, (G.bind g).imp fun px ρ1 S1 H1 e1 s1 g1 y ry => ?_⟩
  obtain ⟨i, rfl, g2⟩ := int_of ry (G.bind g1)
  obtain ⟨b, q⟩ := rng_of g2 s1
  refine ⟨i, rfl, b.1, b.2.1, b.2.2.1, b.2.2.2, ?_⟩
  have q2 := q ρ1 H1 Ext.refl s1
  exact q2 _ (wk_rngR rfl)
theorem pi_rl (O : Ok C CV cl n sc X W) (hg : glB sc ("reversed" : Str) = true) (hf : C.fre ("reversed" : Str) = true) (h : TrE C sc a x) (ih : PE X a (tE X.K W CV (ev cl x))) :
    PI X tg (.Call (.Name ("reversed" : Str) p) [a] [] pos) (tI X.K W CV (evI cl (.revL x))) := by
  refine ⟨fun pins s σ H R I hq => ?_⟩
  obtain ⟨en, ρ, S, he, sim, g⟩ := hq
  simp only [evI] at g
  refine (RT.pi_revA (O.glo _ hg) (O.fre _ hf) ih (starE h.nst)).run pins s σ H R I ?_
  refine ⟨en, ρ, S, he, sim, (G.bind g).imp fun px ρ1 S1 H1 e1 s1 g1 y ry => ?_⟩
  unfold revI at g1
  split at g1
  · cases ry with | loc hl =>
    split at g1
    · rename_i q1
      obtain ⟨xs, w1, r1⟩ := s1.lst q1
      exact ⟨_, xs, rfl, .inl ⟨SqL.of w1, g1 ρ1 H1 Ext.refl s1 _ (wk_revL hl r1.length)⟩⟩
    · exact g1.elim
  · cases ry with | p r =>
    cases r with | tup a b =>
    exact ⟨_, _, rfl, .inr ⟨a, g1 ρ1 H1 Ext.refl s1 _ (wk_revT a b)⟩⟩
  · exact g1.elim
end
end
end Kp

set_option Elab.async false
set_option linter.all false
set_option maxRecDepth 100000
set_option maxHeartbeats 8000000
set_option autoImplicit false
/-! K8: expressions: the evaluator and the model. -/
namespace Kp
open PySem PySem.Spec PyProof.Rows L2
variable [Xc]
theorem bi_boot {b : Bi} {id : String} (h : biId b = some id) : bootBuiltins (id : Str) = some (.builtin id) ∧ (id : Str) ≠ "__name__" ∧ ((id : Str) == ("__debug__" : Str)) = false := by
  cases b <;> first | (cases h; done) | (cases h; exact ⟨by decide +kernel, by decide +kernel, by decide +kernel⟩)
theorem bt_boot {b : Bi} {id : String} (h : biTy b = some id) : bootBuiltins (id : Str) = some (.type id) ∧ (id : Str) ≠ "__name__" ∧ ((id : Str) == ("__debug__" : Str)) = false := by
  cases b <;> first | (cases h; done) | (cases h; exact ⟨by decide +kernel, by decide +kernel, by decide +kernel⟩)
theorem ty_boot (t : Ty) : bootBuiltins (tyId t : Str) = some (.type (tyId t)) ∧ (tyId t : Str) ≠ "__name__" ∧ ((tyId t : Str) == ("__debug__" : Str)) = false := by
  cases t <;> exact ⟨by decide +kernel, by decide +kernel, by decide +kernel⟩
section
variable {C : TC} {CV : Nat → Value} {cl : Cl} {n : Nat} {sc : Scope} {X : Cx} {W : WX}
variable {pins : List (Addr × Obj)} {s : Shared} {σ : L2.St} {H : Hp} {en : En} {ρ : Nat → Addr} {S : Sto}
def mtId (x : PV) : Mt → Option String
  | .append => some "list.append" | .pop0 => some "list.pop" | .reverse => some "list.reverse" | .get2 => some "dict.get" | .join => some "str.join" | .index => (match x with | .loc _ => some "list.index" | _ => some "str.index") | .count => some "list.count" | .insert => some "list.insert"
theorem strsP_rel {K : PySem.W.Frag} {H : Hp} : ∀ {ds : List P} {ys : List Str} {xs : List V}, strsP ds = some ys → RelPs K H ds xs → xs = ys.map V.str
  | [], ys, xs, h, r => by cases h; cases r; rfl
  | d :: ds, ys, xs, h, r => by
    cases r with | cons r1 r2 =>
    cases d <;> first | (cases h; done) | skip
    rename_i s
    unfold strsP at h
    cases q : strsP ds with
    | none => rw [q] at h; cases h
    | some ms =>
      rw [q] at h
      cases h
      cases r1
      rw [strsP_rel q r2]
      rfl
theorem blsP_rel {K : PySem.W.Frag} {H : Hp} : ∀ {ds : List P} {ys : List Bool} {xs : List V}, blsP ds = some ys → RelPs K H ds xs → xs = ys.map V.bl
  | [], ys, xs, h, r => by cases h; cases r; rfl
  | d :: ds, ys, xs, h, r => by
    cases r with | cons r1 r2 =>
    cases d <;> first | (cases h; done) | skip
    rename_i s
    unfold blsP at h
    cases q : blsP ds with
    | none => rw [q] at h; cases h
    | some ms =>
      rw [q] at h
      cases h
      cases r1
      rw [blsP_rel q r2]
      rfl
/-- truths counted -/
def isB (b : Bool) : Value → Bool
  | .bool c => c == b
  | _ => false
theorem isB_all {b : Bool} : ∀ {bs : List Bool} {us : List Value}, Vals (bs.map V.bl) us → us = bs.map Value.bool
  | [], _, h => by cases h; rfl
  | c :: bs, _, h => by
    cases h with | cons h1 h2 =>
    cases h1
    rw [isB_all (b := b) h2]; rfl
theorem isB_count {b : Bool} : ∀ bs : List Bool, (bs.map Value.bool).countP (isB b) = bs.count b
  | [] => rfl
  | c :: bs => by
    rw [List.map_cons, List.countP_cons, List.count_cons, isB_count bs]
    rfl
theorem mt_bcount : MtR X "list.count" (fun x xs H Q => ∃ (p : Addr) (bs : List Bool) (b : Bool), x = .ref p ∧ xs = [.bl b] ∧ SqL X.K H p (bs.map V.bl) ∧ Q (.int (bs.count b : Nat)) H) := by
  intro pins s σ H x xs v us Q I rx rxs ⟨p, bs, b, e1, e2, hs, q⟩
  subst e1 e2
  cases rx
  obtain ⟨u, rfl, ru⟩ := rxs.one
  cases ru
  obtain ⟨its, rv, ⟨⟨k1, k2, k3, k4⟩, n, ho, hk1, hk2, hk3⟩, _⟩ := I.list hs
  dsimp only at hk1 hk3
  subst hk1 hk3
  have el := isB_all (b := b) rv
  have eq : its.toArray.toList.countP (isB b) = bs.count b := by
    show its.countP _ = _
    rw [el, isB_count]
  have meets := SeqAt.list_countAt p its.toArray n k2 k4 (.bool b) (isB b)
  refine call_meets PySem.F.slot_list_count ⟨_, ho, rfl⟩ PySem.F.entry_list_count (PySem.F.args_list_count_2 _ _) meets ⟨ho, fun y hy => ?_, ?_⟩
  · have hm : y ∈ bs.map Value.bool := by rw [← el]; simpa using hy
    obtain ⟨c, _, rfl⟩ := List.mem_map.mp hm
    exact SeqAt.EqAt.bool_bool c b
  · exact ⟨.int (bs.count b : Nat), H, I.tok _, ⟨s.toks, by rw [← eq]⟩, q⟩
theorem mt_ok {m : Mt} {id : String} {Q : VK} {px : PV} {ps : List PV} {x : V} {xs : List V} {v : Value} {us : List Value} (hm : mtId px m = some id) (hu : X.A.units + 1 < cLine)
    (I : Inv X pins σ H s) (sim : Sim X.K ρ S H) (rx : RelQ X.K H ρ S.length px x) (rxs : RelQs X.K H ρ S.length ps xs) (rv : RelV x v) (ru : Vals xs us)
    (g : G X.K W CV σ ρ S H (mtV m px ps S) (QV X.K Q)) : wpAny (model X.prog X.w) X.A (call (.builtin id) (v :: us)) (EP X pins σ Q) X.xe s := by
  unfold mtV at g
  split at g
  · cases hm
    cases rx with | loc hl =>
    cases rxs with | cons r1 r2 =>
    cases r2
    cases r1 with | p r1 =>
    split at g
    · rename_i l _ _ _ ds hd
      obtain ⟨ys, q1, rs⟩ := sim.lst hd
      split at g
      · rename_i c
        refine mt_append pins s σ H _ _ v us Q I rv ru ⟨_, ys, _, rfl, rfl, q1, by rw [← rs.length]; exact szl c, ?_⟩
        have w := sim.write (i := l) (o := .lst (ys ++ [_])) (c := .lst (ds ++ [_])) hd ⟨_, upd_same, (rs.append (.cons r1 .nil)).keep (Keep.write _ q1 (fun z => z))⟩
        exact g ρ _ w.2 w.1 _ (.p .non)
      · exact g.elim
    · exact g.elim
  · cases hm
    cases rx with | loc hl =>
    cases rxs
    cases ru
    split at g
    · rename_i l _ ds hd
      obtain ⟨ys, q1, rs⟩ := sim.lst hd
      split at g
      · rename_i d hg
        obtain ⟨y, hy, ry⟩ := rs.get hg
        rw [rs.length] at hy
        refine mt_pop pins s σ H _ _ v [] Q I rv .nil ⟨_, ys, y, rfl, rfl, q1, hy, ?_⟩
        have k : Keep H (upd H (ρ l) (.lst ys.dropLast)) := Keep.write _ q1 (fun z => z)
        have w := sim.write (i := l) (o := .lst ys.dropLast) (c := .lst ds.dropLast) hd ⟨_, upd_same, rs.dropLast.keep k⟩
        exact g ρ _ w.2 w.1 _ (.p (ry.keep k))
      · exact g.elim
    · exact g.elim
  · cases hm
    cases rx with | loc hl =>
    cases rxs
    cases ru
    split at g
    · rename_i l _ ds hd
      obtain ⟨ys, q1, rs⟩ := sim.lst hd
      refine mt_reverse pins s σ H _ _ v [] Q I rv .nil ⟨_, ys, rfl, rfl, q1, ?_⟩
      have w := sim.write (i := l) (o := .lst ys.reverse) (c := .lst ds.reverse) hd ⟨_, upd_same, rs.reverse.keep (Keep.write _ q1 (fun z => z))⟩
      exact g ρ _ w.2 w.1 _ (.p .non)
    · exact g.elim
  · cases hm
    cases rx with | loc hl =>
    cases rxs with | cons r1 r2 =>
    cases r2 with | cons r2 r3 =>
    cases r3
    cases r1 with | p r1 => cases r2 with | p r2 =>
    split at g
    · rename_i l _ _ ds hd
      obtain ⟨ws, q1, rs⟩ := sim.dct hd
      split at g
      · rename_i k hk
        have ek := keyP_rel r1 hk
        subst ek
        obtain ⟨u1, u2, rfl, ra, rb⟩ := vals2 ru
        obtain rfl : v = Value.ref _ := rv
        refine d_get2 hu I (DGet.k (k := k) q1) ra rb fun w' s' I' rw' => ⟨_, H, I', rw', ?_⟩
        rcases lu_rel (k := k) rs with ⟨a, b⟩ | ⟨d, y, a, b, ry⟩
        · rw [a] at g; rw [b]; exact G.okp g sim r2
        · rw [a] at g; rw [b]; exact G.okp g sim ry
      · exact g.elim
    · exact g.elim
  · cases hm
    cases rx with | p rx =>
    cases rx
    cases rxs with | cons r1 r2 =>
    cases r2
    cases r1 with | loc hl =>
    split at g
    · rename_i ds hd
      obtain ⟨ys, q1, rs⟩ := sim.lst hd
      split at g
      · rename_i zs hz
        split at g
        · rename_i c
          rw [strsP_rel hz rs] at q1
          exact mt_join pins s σ H _ _ v us Q I rv ru ⟨_, _, zs, rfl, rfl, .inl (SqL.of q1), c, G.okp g sim (.str _)⟩
        · exact g.elim
      · exact g.elim
    · exact g.elim
  · cases hm
    cases rx with | p rx =>
    cases rx
    cases rxs with | cons r1 r2 =>
    cases r2
    cases r1 with | p r1 =>
    cases r1
    split at g
    · rename_i i r ho
      exact mt_sindex pins s σ H _ _ v us Q I rv ru ⟨_, _, i, r, rfl, rfl, ho, G.okp g sim (.int _)⟩
    · exact g.elim
  · cases hm
    cases rx with | loc hl =>
    cases rxs with | cons r1 r2 =>
    cases r2
    cases r1 with | p r1 =>
    split at g
    · rename_i ds hd
      obtain ⟨ys, q1, rs⟩ := sim.lst hd
      split at g
      · rename_i c
        rw [Bool.and_eq_true] at c
        split at g
        · rename_i j hj
          obtain ⟨h1, h2, h3⟩ := List.findIdx?_eq_some_iff_getElem.mp hj
          obtain ⟨z, hz, rz⟩ := rs.get (List.getElem?_eq_getElem h1)
          have fl : ∀ (m : Nat) (h : m < ds.length), flatP ds[m] = true := fun m h => List.all_eq_true.mp c.2 _ (List.getElem_mem h)
          refine mt_index pins s σ H _ _ v us Q I rv ru ⟨_, ys, _, j, z, rfl, rfl, SqL.of q1, flat_rel r1 c.1, flat_rels rs c.2, hz, ?_, fun m z' hm hz' => ?_, G.okp g sim (.int _)⟩
          · rw [← eqv_flat rz r1 (fl j h1) c.1]; exact h2
          · have hm2 : m < ds.length := by omega
            obtain ⟨z2, hz2, rz2⟩ := rs.get (List.getElem?_eq_getElem hm2)
            rw [hz'] at hz2
            cases hz2
            rw [← eqv_flat rz2 r1 (fl m hm2) c.1]
            simpa using h3 m hm
        · exact g.elim
      · exact g.elim
    · exact g.elim
  · cases hm
    cases rx with | loc hl =>
    cases rxs with | cons r1 r2 =>
    cases r2
    cases r1 with | p r1 =>
    cases r1
    split at g
    · rename_i ds hd
      obtain ⟨ys, q1, rs⟩ := sim.lst hd
      split at g
      · rename_i bs hb
        refine mt_bcount pins s σ H _ _ v us Q I rv ru ⟨_, bs, _, rfl, rfl, ?_, G.okp g sim (.int _)⟩
        rw [blsP_rel hb rs] at q1
        exact SqL.of q1
      · exact g.elim
    · exact g.elim
  · cases hm
    cases rx with | loc hl =>
    cases rxs with | cons r1 r2 =>
    cases r2 with | cons r2 r3 =>
    cases r3
    cases r1 with | p r1 => cases r2 with | p r2 =>
    cases r1
    split at g
    · rename_i n xx xv oc ds hd
      obtain ⟨ys, q1, rs⟩ := sim.lst hd
      split at g
      · rename_i c
        refine mt_insert pins s σ H _ _ v us Q I rv ru ⟨_, ys, _, _, rfl, rfl, q1, by rw [← rs.length]; exact szl c.1, c.2.1, by omega, ?_⟩
        have w := sim.write (o := .lst (ys.take n.toNat ++ [xv] ++ ys.drop n.toNat)) (c := .lst (ds.take n.toNat ++ [xx] ++ ds.drop n.toNat)) hd ⟨_, upd_same, (((rs.take n.toNat).append (.cons r2 .nil)).append (rs.drop n.toNat)).keep (Keep.write _ q1 (fun z => z))⟩
        exact g ρ _ w.2 w.1 _ (.p .non)
      · exact g.elim
    · exact g.elim
  · exact g.elim
theorem few_ok {es : List Expr} {ms : Exs} {env : Env} {cpos : Pos} (h : TrEs C sc es ms) (hl : es.length < 20) : ((backTo cpos (starEach es env)).all (fun x => !x.1) && (backToKw cpos (keywordEach [] env)).all (fun x => x.1.isSome)
      && decide (es.length + ([] : List Keyword).length + (if ([] : List Keyword).isEmpty then 0 else 1) < 30)) = true := by
  have a : (backTo cpos (starEach es env)).all (fun x => !x.1) = true := by
    have := h.plain (env := env) (pos := cpos)
    rw [List.any_eq_false] at this
    rw [List.all_eq_true]
    intro x hx
    have := this x hx
    simpa using this
  rw [a]
  have b : decide (es.length + ([] : List Keyword).length + (if ([] : List Keyword).isEmpty then 0 else 1) < 30) = true := by
    apply decide_eq_true
    show es.length + 0 + 0 < 30
    omega
  rw [b]; rfl
/-- the method's type, name, rule's facts -/
theorem mth_ok {m : Mt} {o : Expr} {es : List Expr} {x : Ex} {ms : Exs} {apos cpos : Pos} (O : Ok C CV cl n sc X W) (ho : PE X o (tE X.K W CV (ev cl x))) (ha : PA X es (tA X.K W CV (evs cl ms))) (hes : TrEs C sc es ms) (hl : es.length = mtArg m) (h20 : mtArg m < 20) (hb : baseB o = true) (hline : (apos.endLine == cpos.line) = true) :
    PE X (.Call (.Attribute o (mtNm m) apos) es [] cpos) (tE X.K W CV (ev cl (.mth m x ms))) := by
  refine ⟨fun pins s σ H Q I hq => ?_⟩
  obtain ⟨en, ρ, S, he, sim, g⟩ := hq
  simp only [ev] at g
  have main0 : (∀ px S1 ρ1 H1 x1 v s1, Inv X pins σ H1 s1 → Sim X.K ρ1 S1 H1 → RelQ X.K H1 ρ1 S1.length px x1 → RelV x1 v → mtTy m px S1 = true → ∃ T id, PlainAttrs T ∧ Slot T (mtNm m) id ∧ typeOf (.builtin id) = pure (.type "method_descriptor") ∧ mtId px m = some id ∧ s1.TypeIs v T ∧ ∀ b, v = .ref b → ∃ ob, s1.heap.get? b = some ob ∧ ob.dict = none) →
      wpAny (model X.prog X.w) X.A (eval (.Call (.Attribute o (mtNm m) apos) es [] cpos) X.env) (EP X pins σ Q) X.xe s := by
    intro ty
    refine wpAny_Call_method_late (base_nb hb) (few_ok hes (by rw [hl]; exact h20)) hline rfl (thn (ev1 ho I he sim g) fun v s1 ⟨x1, H1, ρ1, S1, px, A1, r1, rx, g1⟩ => ?_)
    split at g1
    · rename_i hty'
      obtain ⟨T, id, pa, slot, hty, hid, h1, h2⟩ := ty px S1 ρ1 H1 x1 v s1 A1.inv A1.sim rx r1 hty'
      refine ⟨T, id, pa, slot, hty, h1, h2, ?_⟩
      cases hes with
      | nil =>
        simp only [evs, R.bind] at g1
        exact Calls.callWith_builtin rfl (PySem.evalArgs_none (mt_ok hid O.hu1 A1.inv A1.sim rx .nil r1 .nil g1))
      | cons h1 h2 =>
        have hes : TrEs C sc _ _ := .cons h1 h2
        have fin := thn (evs1 (pos := cpos) ha A1.inv (he.ext A1.ext) A1.sim g1) fun us s2 ⟨xs, H2, ρ2, S2, ps, A2, rs, rps, g2⟩ => mt_ok hid O.hu1 A2.inv A2.sim (rx.ext A2.ext) rps r1 rs g2
        have hp := hes.plain (env := X.env) (pos := cpos)
        rw [starE h1.nst] at fin hp ⊢
        exact Calls.callWith_builtin hp (Calls.evalArgs_plain fin)
    · exact g1.elim
  have main : ∀ (T id : String), PlainAttrs T → Slot T (mtNm m) id → typeOf (.builtin id) = pure (.type "method_descriptor") → (∀ px S1, mtTy m px S1 = true → mtId px m = some id) →
      (∀ px S1 ρ1 H1 x1 v s1, Inv X pins σ H1 s1 → Sim X.K ρ1 S1 H1 → RelQ X.K H1 ρ1 S1.length px x1 → RelV x1 v → mtTy m px S1 = true → s1.TypeIs v T ∧ ∀ b, v = .ref b → ∃ ob, s1.heap.get? b = some ob ∧ ob.dict = none) →
      wpAny (model X.prog X.w) X.A (eval (.Call (.Attribute o (mtNm m) apos) es [] cpos) X.env) (EP X pins σ Q) X.xe s := fun T id pa slot hty hid ty =>
    main0 fun px S1 ρ1 H1 x1 v s1 i1 i2 i3 i4 i5 => ⟨T, id, pa, slot, hty, hid px S1 i5, ty px S1 ρ1 H1 x1 v s1 i1 i2 i3 i4 i5⟩
  have lty : ∀ (px : PV) (S1 : Sto) (ρ1 : Nat → Addr) (H1 : Hp) (x1 : V) (v : Value) (s1 : Shared), Inv X pins σ H1 s1 → Sim X.K ρ1 S1 H1 → RelQ X.K H1 ρ1 S1.length px x1 → RelV x1 v → (∃ l ds, px = .loc l ∧ S1[l]? = some (.lst ds)) → s1.TypeIs v "list" ∧ ∀ b, v = .ref b → ∃ ob, s1.heap.get? b = some ob ∧ ob.dict = none := by
    intro px S1 ρ1 H1 x1 v s1 I1 sm rx rv ⟨l, ds, e, hd⟩
    subst e
    obtain ⟨ys, q1, rs⟩ := sm.lst hd
    cases rx
    exact tyV_is (T := "list") I1 rv (.inl ⟨rfl, ys, SqL.of q1⟩)
  have isl : ∀ {px : PV} {S1 : Sto}, isLst px S1 = true → ∃ l ds, px = .loc l ∧ S1[l]? = some (.lst ds) := by
    intro px S1 h
    unfold isLst at h
    split at h
    · split at h
      · rename_i e; exact ⟨_, _, rfl, e⟩
      · cases h
    · cases h
  have ist : ∀ (px : PV) (S1 : Sto) (ρ1 : Nat → Addr) (H1 : Hp) (x1 : V) (v : Value) (s1 : Shared), RelQ X.K H1 ρ1 S1.length px x1 → RelV x1 v → isStr px = true → s1.TypeIs v "str" ∧ ∀ b, v = .ref b → ∃ ob, s1.heap.get? b = some ob ∧ ob.dict = none := by
    intro px S1 ρ1 H1 x1 v s1 rx rv h
    unfold isStr at h
    split at h
    · cases rx with | p r =>
      cases r
      obtain ⟨t, rfl⟩ := rv
      exact ⟨typeIs_str _ _ _, fun b e => by cases e⟩
    · cases h
  cases m with
  | join => exact main "str" "str.join" PySem.F.plainAttrs_str PySem.F.slot_str_join PySem.F.type_str_join (fun _ _ _ => rfl) fun px S1 ρ1 H1 x1 v s1 I1 sm rx rv h => ist px S1 ρ1 H1 x1 v s1 rx rv h
  | index =>
    refine main0 fun px S1 ρ1 H1 x1 v s1 I1 sm rx rv h => ?_
    have h : (isStr px || isLst px S1) = true := h
    cases q : isStr px with
    | true =>
      obtain ⟨t1, t2⟩ := ist px S1 ρ1 H1 x1 v s1 rx rv q
      refine ⟨"str", "str.index", PySem.F.plainAttrs_str, PySem.F.slot_str_index, PySem.F.type_str_index, ?_, t1, t2⟩
      cases px with
      | loc _ => cases q
      | _ => rfl
    | false =>
      rw [q, Bool.false_or] at h
      obtain ⟨l, ds, e, hd⟩ := isl h
      obtain ⟨t1, t2⟩ := lty px S1 ρ1 H1 x1 v s1 I1 sm rx rv ⟨l, ds, e, hd⟩
      subst e
      exact ⟨"list", "list.index", PySem.F.plainAttrs_list, PySem.F.slot_list_index, PySem.F.type_list_index, rfl, t1, t2⟩
  | count => exact main "list" "list.count" PySem.F.plainAttrs_list PySem.F.slot_list_count PySem.F.type_list_count (fun _ _ _ => rfl) fun px S1 ρ1 H1 x1 v s1 I1 sm rx rv h => lty px S1 ρ1 H1 x1 v s1 I1 sm rx rv (isl h)
  | insert => exact main "list" "list.insert" PySem.F.plainAttrs_list PySem.F.slot_list_insert PySem.F.type_list_insert (fun _ _ _ => rfl) fun px S1 ρ1 H1 x1 v s1 I1 sm rx rv h => lty px S1 ρ1 H1 x1 v s1 I1 sm rx rv (isl h)
  | append => exact main "list" "list.append" PySem.F.plainAttrs_list PySem.F.slot_list_append PySem.F.type_list_append (fun _ _ _ => rfl) fun px S1 ρ1 H1 x1 v s1 I1 sm rx rv h => lty px S1 ρ1 H1 x1 v s1 I1 sm rx rv (isl h)
  | pop0 => exact main "list" "list.pop" PySem.F.plainAttrs_list PySem.F.slot_list_pop PySem.F.type_list_pop (fun _ _ _ => rfl) fun px S1 ρ1 H1 x1 v s1 I1 sm rx rv h => lty px S1 ρ1 H1 x1 v s1 I1 sm rx rv (isl h)
  | reverse => exact main "list" "list.reverse" PySem.F.plainAttrs_list PySem.F.slot_list_reverse PySem.F.type_list_reverse (fun _ _ _ => rfl) fun px S1 ρ1 H1 x1 v s1 I1 sm rx rv h => lty px S1 ρ1 H1 x1 v s1 I1 sm rx rv (isl h)
  | get2 =>
    refine main "dict" "dict.get" PySem.F.plainAttrs_dict PySem.F.slot_dict_get PySem.F.type_dict_get (fun _ _ _ => rfl) fun px S1 ρ1 H1 x1 v s1 I1 sm rx rv h => ?_
    have h : isDct px S1 = true := h
    unfold isDct at h
    split at h
    · split at h
      · rename_i e
        obtain ⟨ws, q1, rs⟩ := sm.dct e
        cases rx
        obtain rfl : v = Value.ref _ := rv
        obtain ⟨t1, t2, _⟩ := isD_at I1 (.inl ⟨ws, .inl q1⟩)
        exact ⟨t1, t2⟩
      · cases h
    · cases h

/-! ### a written dict -/
def DP (X : Cx) (W : WX) (CV : Nat → Value) (f : En → Sto → R (List PV)) (ks : List Str) (σ : L2.St) (H : Hp) (Q : List (V × V) → Hp → Prop) : Prop :=
  ∃ en ρ S, EnvOk X.K H ρ S.length en σ ∧ Sim X.K ρ S H ∧ G X.K W CV σ ρ S H (f en S) (fun vs ρ' S' H' => ∀ xs : List V, RelQs X.K H' ρ' S'.length vs xs → xs.length = ks.length ∧ Q (List.zip (ks.map V.str) xs) H')
theorem relQs_nil {K : PySem.W.Frag} {L : Nat} {xs : List V} (h : RelQs K H ρ L [] xs) : xs = [] := by cases h; rfl
theorem puK_eq {kvs : List (Key × P)} {ws : List (Key × V)} {k : Key} {d : P} {x : V} (r : RelKs X.K H kvs ws) (rx : RelP X.K H d x) : RelKs X.K H (puK kvs k d) (putK ws k x) := by
  have any : (kvs.any fun kv => decide (kv.1 = k)) = (ws.any fun kv => decide (kv.1 = k)) := by
    induction r with
    | nil => rfl
    | cons a _ ih => rw [List.any_cons, List.any_cons, ih, a.1]
  unfold puK putK
  rw [any]
  split
  · rename_i c
    clear c any
    induction r with
    | nil => exact .nil
    | @cons a b _ _ ab _ ih =>
      rw [List.map_cons, List.map_cons]
      refine .cons ?_ ih
      by_cases e : a.1 = k
      · rw [if_pos e, if_pos (ab.1 ▸ e)]; exact ⟨ab.1, rx⟩
      · rw [if_neg e, if_neg (ab.1 ▸ e)]; exact ab
  · rename_i c
    clear c any
    induction r with
    | nil => exact .cons ⟨rfl, rx⟩ .nil
    | cons ab _ ih => exact .cons ab ih
theorem dct_rel : ∀ {ks : List Str} {vs : List PV} {xs : List V} {acc kvs : List (Key × P)} {aw : List (Key × V)}, dctV ks vs acc = some kvs → RelQs X.K H ρ S.length vs xs → RelKs X.K H acc aw →
    ∃ kw : List (Key × V), List.zip (ks.map V.str) xs = kw.map (fun kv => (kV kv.1, kv.2)) ∧ kw.length = ks.length ∧ RelKs X.K H kvs (mergeK aw kw)
  | [], [], xs, acc, kvs, aw, h, r, ra => by
    cases r
    cases h
    exact ⟨[], rfl, rfl, ra⟩
  | k :: ks, .p d :: vs, xs, acc, kvs, aw, h, r, ra => by
    cases r with | cons r1 r2 =>
    rename_i x xs
    cases r1 with | p rd =>
    have h : dctV ks vs (puK acc (.inr k) d) = some kvs := h
    obtain ⟨kw, e, l, rk⟩ := dct_rel h r2 (puK_eq (k := .inr k) ra rd)
    refine ⟨(.inr k, x) :: kw, ?_, by simp [l], rk⟩
    rw [List.map_cons, List.zip_cons_cons, e]; rfl
  | [], _ :: _, _, _, _, _, h, _, _ => by cases h
  | _ :: _, [], _, _, _, _, h, _, _ => by cases h
  | _ :: _, .loc _ :: _, _, _, _, _, h, _, _ => by cases h
  | _ :: _, .mt _ :: _, _, _, _, _, h, _, _ => by cases h
  | _ :: _, .exc _ :: _, _, _, _, _, h, _, _ => by cases h
theorem dct_okD {keys : List (Option Expr)} {k₀ : Option Expr} {vals : List Expr} {ks : List Str} {ms : Exs} {pos : Pos} (h : TrD C sc (k₀ :: keys) vals ks ms) (h15 : (k₀ :: keys).length ≤ 15) (ih : ∀ pos, ∃ trs, PPs X pos (k₀ :: keys) vals trs ∧ ∀ σ H Q, DP X W CV (evs cl ms) ks σ H Q → tPairs trs σ H Q) :
    PE X (.Dict (k₀ :: keys) vals pos) (tE X.K W CV (ev cl (.dct ks ms))) := by
  obtain ⟨trs, hp, hq⟩ := ih pos
  have hlen : ∀ {keys : List (Option Expr)} {vals : List Expr} {ks : List Str} {ms : Exs}, TrD C sc keys vals ks ms → keys.length = vals.length ∧ keys.length = ks.length ∧ keys.all (·.isSome) = true := by
    intro keys
    induction keys with
    | nil => intro vals ks ms h; cases h; exact ⟨rfl, rfl, rfl⟩
    | cons k keys IH =>
      intro vals ks ms h
      cases h with | cons a b =>
      obtain ⟨x, y, z⟩ := IH b
      exact ⟨by simp [x], by simp [y], by rw [List.all_cons, z]; rfl⟩
  obtain ⟨l1, l2, l3⟩ := hlen h
  refine ⟨fun pins s σ H Q I hq0 => ?_⟩
  refine (pe_disp (pos := pos) hp l3 l1 (by simp) h15).run pins s σ H Q I ?_
  obtain ⟨en, ρ, S, he, sim, g⟩ := hq0
  simp only [ev] at g
  intro p hp0
  obtain ⟨s0, e0⟩ := sim.new (o := .dK []) (c := .dct []) hp0 ⟨[], upd_same, .nil⟩
  refine hq σ _ _ ⟨en, _, S ++ [.dct []], he.ext e0, s0, (G.bind (g.from e0)).imp fun vs ρ1 S1 H1 e1 s1 g1 xs rxs => ?_⟩
  split at g1
  · rename_i kvs h1 h2
    obtain ⟨ws, q1, r0⟩ := s1.dct h1
    cases r0
    have er : ρ1 S.length = p := (e1.same S.length (by simp)).trans put_same
    rw [er] at q1
    obtain ⟨kw, e, l, rk⟩ := dct_rel h2 rxs (Paired.nil : RelKs X.K H1 [] [])
    have k2 : Keep H1 (upd H1 p (.dK (mergeK [] kw))) := Keep.write _ q1 (fun z => z)
    have w := s1.write (i := S.length) (o := .dK (mergeK [] kw)) (c := .dct kvs) h1 ⟨_, upd_same, rk.keep (by rw [er]; exact k2)⟩
    rw [er] at w
    refine ⟨?_, q1, kw, e, by rw [l, ← l2]; exact h15, ?_⟩
    · have := congrArg List.length e
      have hl := rxs.length
      have e3 : ∀ {ks : List Str} {vs : List PV} {acc kvs : List (Key × P)}, dctV ks vs acc = some kvs → ks.length = vs.length := by
        intro ks
        induction ks with
        | nil =>
          intro vs acc kvs h
          cases vs with
          | nil => rfl
          | cons _ _ => cases h
        | cons k ks IH =>
          intro vs acc kvs h
          cases vs with
          | nil => cases h
          | cons v vs =>
            cases v with
            | p d => have h : dctV ks vs (puK acc (.inr k) d) = some kvs := h; simp [IH h]
            | loc _ => cases h
            | mt _ => cases h
            | exc _ => cases h
      rw [← hl, e3 h2]
    · refine g1 ρ1 _ w.2 w.1 (.ref p) ?_
      have z : RelQ X.K (upd H1 p (.dK (mergeK [] kw))) ρ1 (S1.set S.length (Cell.dct kvs)).length (.loc S.length) (.ref (ρ1 S.length)) := .loc (by simp; exact getE_lt h1)
      rw [er] at z
      exact z
  · exact g1.elim

/-! ### comprehensions -/
abbrev W0 : WX := fun _ _ _ _ => False
theorem comp_ok {i : Nat} {it : Ix} {tst : Oe} {e : Ex} :
    ∀ σ H Q, tE X.K W CV (ev cl (.comp i it tst e)) σ H Q → tLc (tI X.K W CV (evI cl it)) (gName i) (tT X.K W0 CV (evC cl tst)) (tE X.K W0 CV (ev cl e)) [i] σ H Q := by
  intro σ H Q hq
  obtain ⟨en, ρ, S, he, sim, g⟩ := hq
  simp only [ev] at g
  refine ⟨en, ρ, S, he, sim, (G.bind g).imp fun q ρ1 S1 H1 e1 s1 g1 J wk => ?_⟩
  intro D hD
  obtain ⟨s0, e0⟩ := s1.new (o := .lst []) (c := .lst []) hD ⟨[], upd_same, .nil⟩
  obtain ⟨its, w⟩ := q
  dsimp only at g1 wk
  have inv : ∀ (k : Nat) (H' : Hp), Prop := fun k H' => ∃ ρ' S', Ext (put ρ1 S1.length D) (S1 ++ [Cell.lst []]) (upd H1 D (.lst [])) ρ' S' H' ∧ Sim X.K ρ' S' H' ∧
    G X.K W CV σ ρ' S' H' ((compL (ev cl e) (evC cl tst) i w S1.length (its.drop k) en S').bind fun _ S' => .ok (.loc S1.length) S') (QV X.K Q)
  refine ⟨fun k m H' => m = its.length - k ∧ ∃ ρ' S', Ext (put ρ1 S1.length D) (S1 ++ [Cell.lst []]) (upd H1 D (.lst [])) ρ' S' H' ∧ Sim X.K ρ' S' H' ∧
    G X.K W CV σ ρ' S' H' ((compL (ev cl e) (evC cl tst) i w S1.length (its.drop k) en S').bind fun _ S' => .ok (.loc S1.length) S') (QV X.K Q), ⟨its.length, by simp, _, _, Ext.refl, s0, ?_⟩, ?_⟩
  · rw [List.drop_zero]
    exact g1.from e0
  · rintro k m H' ⟨rfl, ρ', S', ex, sm, g2⟩
    have hloc : ρ' S1.length = D := (ex.same S1.length (by simp)).trans put_same
    have hlt : S1.length < S'.length := Nat.lt_of_lt_of_le (by simp) ex.le
    cases hd : its.drop k with
    | nil =>
      have hk : its.length ≤ k := by
        have := congrArg List.length hd
        rw [List.length_drop] at this
        simp at this; omega
      rw [hd] at g2
      unfold compL at g2
      split at g2
      · rename_i hw
        refine .inl ⟨(wk ρ' S' H' (e0.trans ex) sm hw k).2 hk, ?_⟩
        have z : RelQ X.K H' ρ' S'.length (.loc S1.length) (.ref (ρ' S1.length)) := .loc hlt
        rw [hloc] at z
        exact g2 ρ' H' Ext.refl sm _ z
      · exact g2.elim
    | cons x r =>
      have hk : its[k]? = some x := by
        have := congrArg (·[0]?) hd
        simpa using this
      have hr : its.drop (k + 1) = r := by
        have := congrArg List.tail hd
        simpa using this
      have hkl := getE_lt hk
      rw [hd] at g2
      unfold compL at g2
      split at g2
      · rename_i hw
        obtain ⟨hgo, hy⟩ := (wk ρ' S' H' (e0.trans ex) sm hw k).1 x hk
        refine .inr ⟨hgo, fun H' => ∃ ρ' S', Ext (put ρ1 S1.length D) (S1 ++ [Cell.lst []]) (upd H1 D (.lst [])) ρ' S' H' ∧ Sim X.K ρ' S' H' ∧
          G X.K W CV σ ρ' S' H' ((compL (ev cl e) (evC cl tst) i w S1.length r en S').bind fun _ S' => .ok (.loc S1.length) S') (QV X.K Q), fun H'' h => ⟨its.length - (k + 1), by omega, rfl, by rw [hr]; exact h⟩, fun y H'' yl => ?_⟩
        obtain ⟨sh, ry⟩ := hy y H'' yl
        have sm2 := sm.same sh
        have ex2 : Ext ρ' S' H' ρ' S' H'' := ⟨Nat.le_refl _, fun _ _ => rfl, sh.keep⟩
        have wset : (wipe σ [i]).set i (some y) = σ.set i (some y) := by
          show ((wipe σ []).set i none).set i (some y) = _
          rw [List.set_set]; rfl
        show wipe ((wipe σ [i]).set i (some y)) [i] = wipe σ [i] ∧ _
        refine ⟨by rw [wset]; show (wipe _ []).set i none = (wipe _ []).set i none; show (σ.set i (some y)).set i none = σ.set i none; rw [List.set_set], ?_⟩
        rw [wset]
        have he2 : EnvOk X.K H'' ρ' S'.length (en.set i (some x)) (σ.set i (some y)) := ((he.ext e1).ext ((e0.trans ex).trans ex2)).set ry
        have g3 := g2.from ex2
        refine ⟨en.set i (some x), ρ', S', he2, sm2, ?_⟩
        cases hq : evC cl tst (en.set i (some x)) S' with
        | no => rw [hq] at g3; exact g3.elim
        | ex c Sx => rw [hq] at g3; exact g3.elim
        | ok b S3 =>
          rw [hq] at g3
          intro ρ3 H3 e3 s3
          cases b with
          | false =>
            rw [if_neg Bool.false_ne_true]
            exact ⟨ρ3, S3, (ex.trans ex2).trans e3, s3, g3.from e3⟩
          | true =>
            rw [if_pos rfl]
            refine ⟨en.set i (some x), ρ3, S3, he2.ext e3, s3, ?_⟩
            have g4 := g3.from e3
            dsimp only at g4
            cases hq2 : ev cl e (en.set i (some x)) S3 with
            | no => rw [hq2] at g4; exact g4.elim
            | ex c Sx => rw [hq2] at g4; exact g4.elim
            | ok v S4 =>
              rw [hq2] at g4
              intro ρ4 H4 e4 s4 z rz
              cases v with
              | loc _ => exact g4.elim
              | mt _ => exact g4.elim
              | exc _ => exact g4.elim
              | p d =>
                dsimp only at g4
                split at g4
                · rename_i acc hacc
                  obtain ⟨av, q4, ra⟩ := s4.lst hacc
                  have hl4 : ρ4 S1.length = D := by
                    rw [e4.same _ (Nat.lt_of_lt_of_le hlt e3.le), e3.same _ hlt]; exact hloc
                  rw [hl4] at q4
                  split at g4
                  · rename_i c
                    cases rz with | p rz =>
                    refine ⟨av, q4, by rw [← ra.length]; exact szl c, ?_⟩
                    have k2 : Keep H4 (upd H4 D (.lst (av ++ [z]))) := Keep.write _ q4 (fun z => z)
                    have wr := s4.write (i := S1.length) (o := .lst (av ++ [z])) (c := .lst (acc ++ [d])) hacc ⟨_, upd_same, (ra.append (.cons rz .nil)).keep (by rw [hl4]; exact k2)⟩
                    rw [hl4] at wr
                    exact ⟨ρ4, _, (((ex.trans ex2).trans e3).trans e4).trans wr.2, wr.1, (g4.from e4).from wr.2⟩
                  · exact g4.elim
                · exact g4.elim
      · exact g2.elim
end
end Kp

set_option Elab.async false
set_option linter.all false
set_option maxRecDepth 100000
set_option maxHeartbeats 8000000
set_option autoImplicit false
/-! K8b: max of a list with a default. -/
namespace Kp
open PySem PySem.Spec PyProof.Rows L2
variable [Xc]
theorem maxOf_I (n : Int) : ∀ ns : List Int, PySem.W.maxOf n ns = maxI n ns := by
  intro ns
  unfold PySem.W.maxOf
  induction ns generalizing n with
  | nil => rfl
  | cons k r ih =>
    rw [List.foldl_cons, maxI, ← ih]
    congr 1
    show (if decide (n < k) = true then k else n) = if k > n then k else n
    by_cases h : n < k
    · rw [if_pos (decide_eq_true h), if_pos h]
    · rw [if_neg (by simpa using h), if_neg h]
def maxR (d : V) : List Int → V
  | [] => d
  | n :: ns => .int (maxI n ns)
def rMaxD (K : PySem.W.Frag) : List V → List V → Hp → VK → Prop := fun vs zs H Q => ∃ (a : Addr) (ns : List Int) (d : V), vs = [.ref a] ∧ zs = [d] ∧ SqL K H a (ns.map V.int) ∧ Q (maxR d ns) H
section
variable {X : Cx}
theorem cr_maxD (hc : X.calm = true) (hu : X.A.units + 1 < cLine) : CallRK X (.builtin "max") [Str.ofString "default"] (rMaxD X.K) := by
  intro pins s σ H vs zs us ws Q I rv rz h
  obtain ⟨a, ns, d, rfl, rfl, hs, q⟩ := h
  obtain ⟨u, rfl, rd⟩ := vals1 rz
  obtain ⟨its, ri, hl, _⟩ := I.list hs
  rw [Vals.ref1 rv]
  refine PySem.W.max_list_datum_default (α := Int) (xs := ns) (I.ok.hd hc) hl.isList ⟨[], ints_readAll _ ri.ints⟩ hu (fun e h' tk k => ?_) fun y ys i v h' tk e hi hv k => ?_
  · subst e
    exact ⟨d, H, I.kept k, rd, q⟩
  · subst e
    obtain ⟨as, r⟩ := hv
    rw [maxOf_I] at r
    cases r
    exact ⟨.int (maxI y ys), H, I.kept k, ⟨_, rfl⟩, q⟩
end
theorem evs2 {α : Type} {cl : Cl} {x y : Ex} {en : En} {S : Sto} (k : List PV → Sto → R α) : (evs cl (.cons x (.cons y .nil)) en S).bind k = (ev cl x en S).bind fun a S => (ev cl y en S).bind fun b S => k [a, b] S := by
  simp only [evs]
  cases ev cl x en S with
  | ok a S1 =>
    dsimp only [R.bind]
    cases ev cl y en S1 <;> rfl
  | _ => rfl
section
variable {CV : Nat → Value} {W : WX} {X : Cx} {σ : L2.St} {H : Hp} {ρ : Nat → Addr} {S : Sto}
theorem maxd_G {px py : PV} {x y : V} {Q : VK} (sim : Sim X.K ρ S H) (rx : RelQ X.K H ρ S.length px x) (ry : RelQ X.K H ρ S.length py y) (g : G X.K W CV σ ρ S H (biV .maxd [px, py] S) (QV X.K Q)) : rMaxD X.K [x] [y] H Q := by
  unfold biV at g
  cases px with
  | loc l =>
    cases py with
    | p d =>
      cases rx with | loc hl =>
      cases ry with | p rd =>
      dsimp only at g
      split at g
      · rename_i xs h
        obtain ⟨ys, q1, r⟩ := sim.lst h
        split at g
        · rename_i n ns e
          rw [intsP_eq e] at r
          rw [r.toInts] at q1
          exact ⟨_, n :: ns, _, rfl, rfl, SqL.of q1, G.okp g sim (.int _)⟩
        · rename_i e
          rw [intsP_eq e] at r
          rw [r.toInts] at q1
          exact ⟨_, [], _, rfl, rfl, SqL.of q1, G.okp g sim rd⟩
        · exact g.elim
      · exact g.elim
    | _ => exact g.elim
  | _ => cases py <;> exact g.elim
end
end Kp

set_option Elab.async false
set_option linter.all false
set_option maxRecDepth 100000
set_option maxHeartbeats 8000000
set_option autoImplicit false
/-! K8c: exceptions as values; defs called where one is handled. -/
namespace Kp
open PySem PySem.Spec PyProof.Rows L2
section
variable {K : PySem.W.Frag} {H : Hp} {ρ : Nat → Addr} {L : Nat} {x0 x1 : Xc}
mutual
theorem RelQ.to (h : ∀ c a, x0.at' c a → x1.at' c a) : ∀ (v : PV) (x : V), @RelQ x0 K H ρ L v x → @RelQ x1 K H ρ L v x
  | .p d, _, r => by cases r with | p r => exact .p r
  | .loc i, _, r => by cases r with | loc r => exact .loc r
  | .mt ds, _, r => by cases r with | mt a b => exact .mt a (RelQs.to h ds _ b)
  | .exc c, _, r => by cases r with | exc r => exact .exc (h _ _ r)
theorem RelQs.to (h : ∀ c a, x0.at' c a → x1.at' c a) : ∀ (v : List PV) (x : List V), @RelQs x0 K H ρ L v x → @RelQs x1 K H ρ L v x
  | [], _, r => by cases r; exact .nil
  | d :: ds, _, r => by cases r with | cons a b => exact .cons (RelQ.to h d _ a) (RelQs.to h ds _ b)
end
mutual
/-- what has no exception in it stands whatever is handled -/
theorem RelQ.free : ∀ (v : PV) (x : V), hasX v = false → @RelQ x0 K H ρ L v x → @RelQ x1 K H ρ L v x
  | .p d, _, _, r => by cases r with | p r => exact .p r
  | .loc i, _, _, r => by cases r with | loc r => exact .loc r
  | .mt ds, _, h, r => by cases r with | mt a b => exact .mt a (RelQs.free ds _ (by simpa [hasX] using h) b)
  | .exc c, _, h, _ => by simp [hasX] at h
theorem RelQs.free : ∀ (v : List PV) (x : List V), hasXs v = false → @RelQs x0 K H ρ L v x → @RelQs x1 K H ρ L v x
  | [], _, _, r => by cases r; exact .nil
  | d :: ds, _, h, r => by
    simp only [hasXs, Bool.or_eq_false_iff] at h
    cases r with | cons a b => exact .cons (RelQ.free d _ h.1 a) (RelQs.free ds _ h.2 b)
end
theorem EnvOk.to {en : En} {σ : L2.St} (h : ∀ c a, x0.at' c a → x1.at' c a) (e : @EnvOk x0 K H ρ L en σ) : @EnvOk x1 K H ρ L en σ :=
  @EnvOk.mk x1 _ _ _ _ _ _ (@EnvOk.len x0 _ _ _ _ _ _ e) (fun i v g => let ⟨x, a, b⟩ := @EnvOk.get x0 _ _ _ _ _ _ e i v g; ⟨x, a, RelQ.to h v x b⟩)
theorem EnvOk.free {en : En} {σ : L2.St} (h : hasXE en = false) (e : @EnvOk x0 K H ρ L en σ) : @EnvOk x1 K H ρ L en σ := by
  refine @EnvOk.mk x1 _ _ _ _ _ _ (@EnvOk.len x0 _ _ _ _ _ _ e) (fun i v g => ?_)
  obtain ⟨x, a, b⟩ := @EnvOk.get x0 _ _ _ _ _ _ e i v g
  refine ⟨x, a, RelQ.free v x ?_ b⟩
  unfold hasXE at h
  rw [List.any_eq_false] at h
  have := h _ (List.mem_of_getElem? g)
  simpa using this
end
theorem xc0_le {x : Xc} : ∀ c a, xc0.at' c a → x.at' c a := fun _ _ h => h.elim
variable [Xc]
section
variable {X : Cx} {CX : CXT} {k : Nat} {f : Addr} {fd : FuncData} {ps : List Str} {sp : Addr × Obj → Sp} {E : L2.St → XK}
/-- such a def called -/
theorem run_fnX {pins : List (Addr × Obj)} {σ : L2.St} {H : Hp} {s : Shared} {Q : VK} {us : List Value} {vs : List V} {p : Addr × Obj} (F : FnX X.prog X.w X.K X.mg X.base CX k f fd ps sp) (hr : L2H.RoomH k X.A) (hot : L2H.Hot1 X.A p) (hp : p ∈ X.pn)
    (hb : Binds X.K fd ps []) (hx : PassesAt CX X σ (E σ)) (I : Inv X pins σ H s) (r : Vals vs us) (h : sp p vs H Q (E σ)) : wpAny (model X.prog X.w) X.A (call (.ref f) us) (EP X pins σ Q) X.xe s := by
  have hl : us.length = ps.length := r.length.symm.trans (F.len _ _ _ _ _ h)
  have b := hb s us I.kIn (by simpa using hl)
  rw [List.append_nil] at b
  obtain ⟨q1, q2, q3, q4, q5⟩ := I.pin p (List.mem_append_left _ hp)
  have pin : L2H.PinOk X.stack H s p := ⟨q1, q2, fun hm => by
    rcases List.mem_cons.mp (I.stkSub p.1 hm) with z | z
    · exact q3 z
    · exact q4 z, q5⟩
  have run := F.run p X.A X.stack s H ⟨us, []⟩ us vs Q (E σ) hr hot pin I.env0 b r h
  refine wpAny_call (codeAny_mono run fun r s' hq => ?_)
  match r, hq with
  | .error e, hq => exact hx pins H s e s' I hq
  | .ok (.ret u), hq => exact I.after hq
  | .ok .next, hq => exact hq.elim
  | .ok .brk, hq => exact hq.elim
  | .ok .cont, hq => exact hq.elim
end
section
variable {C : TC} {CV : Nat → Value} {cl : Cl} {n : Nat} {sc : Scope} {X : Cx} {W : WX}
variable {pins : List (Addr × Obj)} {s : Shared} {σ : L2.St} {H : Hp} {en : En} {ρ : Nat → Addr} {S : Sto}
theorem relQs_cold {ps : List PV} {xs : List V} {L : Nat} {K : PySem.W.Frag} (h : ∀ c a, ¬ Xc.at' c a) (r : RelQs K H ρ L ps xs) : @RelQs xc0 K H ρ L ps xs := RelQs.to (fun c a z => absurd z (h c a)) _ _ r
theorem G_cold {K : PySem.W.Frag} {r : R PV} {Q : VK} (g : G K W CV σ ρ S H r (QV K Q)) : G K W CV σ ρ S H r (@QV xc0 K Q) :=
  g.imp fun a ρ' S' H' e sm q x rx => q x (RelQ.to xc0_le _ _ rx)
/-- a class by its name -/
def tNm (X : Cx) (x : Str) : TE := fun _ H Q => ∃ v cv, RelV v cv ∧ (X.mg x = some cv ∨ X.mg x = none ∧ bootBuiltins x = some cv) ∧ Q v H
theorem pe_nm {x : Str} {p : Pos} (hg : Gl X x) (hd : dbg x = true) (hn : x ≠ "__name__") : PE X (.Name x p) (tNm X x) := by
  refine ⟨fun pins s σ H Q I ⟨v, cv, r, hm, q⟩ => ?_⟩
  rcases hm with hm | ⟨hm, hv⟩
  · exact (pe_glob hg hm r (dbg1 hd)).run pins s σ H Q I q
  · exact (pe_bltn hg hm hv r hn (dbg1 hd)).run pins s σ H Q I q
theorem isx_cls {c : Nat} {xs : List Str} {ys ns : List Nat} {S1 : Sto} {b : Bool} {S2 : Sto} (h : isxV ys ns (.exc c) S1 = .ok b S2) (hy : ys = yesX C xs) (hn : ns = noX C xs) : S2 = S1 ∧ (∀ x ∈ xs, (C.isx x c).isSome = true) ∧ b = xs.any fun x => C.isx x c == some true := by
  subst hy hn
  unfold isxV at h
  dsimp only at h
  split at h
  · rename_i q
    cases h
    have q := (List.mem_filter.mp (List.contains_iff_mem.mp q)).2
    rw [Bool.and_eq_true] at q
    exact ⟨rfl, fun x hx => List.all_eq_true.mp q.1 x hx, q.2.symm⟩
  · split at h
    · rename_i q
      cases h
      have q := (List.mem_filter.mp (List.contains_iff_mem.mp q)).2
      refine ⟨rfl, fun x hx => ?_, ?_⟩
      · have := List.all_eq_true.mp q x hx
        rw [eq_of_beq this]; rfl
      · symm
        rw [List.any_eq_false]
        intro x hx
        have := List.all_eq_true.mp q x hx
        rw [eq_of_beq this]
        decide
    · cases h
/-- the handled exception stands in the state -/
theorem exc_inst {c : Nat} {a D : Addr} {Y : Cx} {p : Addr × Obj} (I : Inv Y pins σ H s) (hp : p ∈ Y.pn) (hot : L2H.Hot1 Y.A p) (ha : (xcP CV p).at' c a) (hD : CV c = .ref D) : ∃ oe, PySem.W.InstAt s.heap a oe D none := by
  obtain ⟨rfl, h2, h3⟩ := ha
  obtain ⟨_, vs, hv, _⟩ := hot
  obtain ⟨hget, _⟩ := I.pin p (List.mem_append_left _ hp)
  rw [hD] at h2
  obtain ⟨pa, oc, od, oda, osl⟩ := p
  dsimp only at h2 h3 hv hget
  subst h2 h3 hv
  exact ⟨_, hget, rfl, rfl, trivial⟩
theorem isx_tail {cs : List Nat} {px : PV} {x : V} {ys ns : List Nat} {xs : List Str} {S1 : Sto} {ρ1 : Nat → Addr} {H1 : Hp} {Q : VK} (O : Ok C CV cl n sc X W) (sm : Sim X.K ρ1 S1 H1) (hy : ys = yesX C xs) (hn : ns = noX C xs) (rx : RelQ X.K H1 ρ1 S1.length px x)
    (g : G X.K W CV σ ρ1 S1 H1 ((isxV ys ns px S1).bind fun b S => okP (.bool b) S) (QV X.K Q)) :
    ∃ (c : Nat) (a : Addr) (p : Addr × Obj), x = .ref a ∧ p ∈ X.pn ∧ L2H.Hot1 X.A p ∧ (xcP CV p).at' c a ∧ (∀ y ∈ xs, ∃ b, C.isx y c = some b) ∧ ∀ H2, Ext ρ1 S1 H1 ρ1 S1 H2 → Sim X.K ρ1 S1 H2 → Q (.bl (xs.any fun y => C.isx y c == some true)) H2 := by
  cases px with
  | exc c =>
    cases rx with | exc ra =>
    rename_i a
    cases hr : isxV ys ns (.exc c) S1 with
    | no => rw [hr] at g; exact g.elim
    | ex d S2 =>
      unfold isxV at hr
      dsimp only at hr
      split at hr
      · cases hr
      · split at hr <;> cases hr
    | ok b S2 =>
      obtain ⟨rfl, h1, h2⟩ := isx_cls hr hy hn
      rw [hr] at g
      have q : ∀ H2, Ext ρ1 S2 H1 ρ1 S2 H2 → Sim X.K ρ1 S2 H2 → Q (.bl b) H2 := fun H2 e2 s2 => (show G X.K W CV σ ρ1 S2 H1 (okP (.bool b) S2) (QV X.K Q) from g) ρ1 H2 e2 s2 _ (.p (.bl b))
      cases hot : C.hot with
      | false => exact absurd ra (O.cold hot _ _)
      | true =>
        obtain ⟨p, hp, hpn, e⟩ := O.warm hot
        refine ⟨c, a, p, rfl, hpn, hp, ?_, fun y hy => Option.isSome_iff_exists.mp (h1 y hy), by rw [← h2]; exact q⟩
        have e2 : (xcP CV p).at' c a = Xc.at' c a := by rw [← e]
        rw [e2]; exact ra
  | _ => exact g.elim
theorem isx_one {e : Expr} {m : Ex} {x : Str} {pos p2 : Pos} {Q : VK} (O : Ok C CV cl n sc X W) (a : PE X e (tE X.K W CV (ev cl m))) (hn : nst e = true) (hg : glB sc x = true) (hd : dbg x = true) (I : Inv X pins σ H s) (he : EnvOk X.K H ρ S.length en σ) (sim : Sim X.K ρ S H)
    (g : G X.K W CV σ ρ S H ((ev cl m en S).bind fun y S => (isxV (yesX C [x]) (noX C [x]) y S).bind fun b S => okP (.bool b) S) (QV X.K Q)) :
    wpAny (model X.prog X.w) X.A (callWith pos (.builtin "isinstance") [] (backTo pos (starEach [e, .Name x p2] X.env)) (backToKw pos (keywordEach [] X.env))) (EP X pins σ Q) X.xe s := by
  have hnm : x ≠ "__name__" := by
    unfold dbg at hd; simp only [Bool.and_eq_true, Bool.not_eq_true', decide_eq_false_iff_not] at hd; exact hd.2
  have pa := pa_cons a (pa_cons (pe_nm (p := p2) (O.glo _ hg) hd hnm) pa_nil (starE rfl)) (starE hn)
  refine PyProof.Rows.callWith_builtin1 (thn (pa.run _ pins s σ H (fun xs H1 => ∃ (c : Nat) (ad D : Addr) (p : Addr × Obj) (v : V) (cv : Value) (b : Bool), xs = [.ref ad, v] ∧ p ∈ X.pn ∧ L2H.Hot1 X.A p ∧ (xcP CV p).at' c ad ∧ CV c = .ref D ∧ L2.ExcC X.K D ∧ PySem.W.kitOne X.K (.ref D) cv = some b ∧ (∀ u, RelV v u → u = cv) ∧ Q (.bl b) H1) I
    ⟨en, ρ, S, he, sim, (G.bind g).imp fun px ρ1 S1 H1 e1 s1 g1 y ry => ?_⟩) fun us s1 ⟨xs, H1, I1, r, c, ad, D, p, v, cv, b, e, hp, hot, ha, hD, ex, hk, hu, q⟩ => ?_) (starE hn) (by rw [starE rfl]; rfl)
  · obtain ⟨c, ad, p, rfl, hp, hot, ha, hb, q⟩ := isx_tail (cs := []) O s1 rfl rfl ry g1
    obtain ⟨b, hb⟩ := hb x List.mem_cons_self
    obtain ⟨D, v, cv, hD, ex, hk, rv, hu, hm⟩ := O.isx _ _ _ hb
    refine ⟨v, cv, rv, hm, c, ad, D, p, v, cv, b, rfl, hp, hot, ha, hD, ex, hk, hu, ?_⟩
    have q := q _ Ext.refl s1
    rw [List.any_cons, List.any_nil, hb, Bool.or_false] at q
    have eb : (some b == some true) = b := by cases b <;> rfl
    rw [eb] at q
    exact q
  · subst e
    cases r with | cons r1 r2 =>
    cases r2 with | cons r2 r3 =>
    cases r3
    cases r1
    have := hu _ r2
    subst this
    obtain ⟨oe, J⟩ := exc_inst I1 hp hot ha hD
    exact PySem.W.kia_one (PySem.W.handS_kitx_exc ex.hg ex.hk ex.hs ex.hd ex.ha ex.hn ex.ht ex.hm) I1.kIn J hk (fun z => nomatch z) fun tk => ⟨.bl b, H1, I1.tok tk, rfl, q⟩
/-! a tuple of classes -/
structure NmAt (X : Cx) (x : Str) (v : V) (cv : Value) : Prop where
  rel : RelV v cv
  one : ∀ u, RelV v u → u = cv
  mg : X.mg x = some cv ∨ X.mg x = none ∧ bootBuiltins x = some cv
inductive NmsAt (X : Cx) : List Str → List V → List Value → Prop
  | nil : NmsAt X [] [] []
  | cons {x : Str} {v : V} {cv : Value} {xs : List Str} {vs : List V} {cvs : List Value} : NmAt X x v cv → NmsAt X xs vs cvs → NmsAt X (x :: xs) (v :: vs) (cv :: cvs)
theorem NmsAt.vals : ∀ {xs : List Str} {vs : List V} {cvs us : List Value}, NmsAt X xs vs cvs → Vals vs us → us = cvs
  | [], _, _, _, h, r => by cases h; cases r; rfl
  | _ :: _, _, _, _, h, r => by
    cases h with | cons a b =>
    cases r with | cons r1 r2 => rw [a.one _ r1, NmsAt.vals b r2]
theorem NmsAt.len : ∀ {xs : List Str} {vs : List V} {cvs : List Value}, NmsAt X xs vs cvs → vs.length = xs.length
  | [], _, _, h => by cases h; rfl
  | _ :: _, _, _, h => by cases h with | cons a b => simp [NmsAt.len b]
theorem trns_len {es : List Expr} {xs : List Str} (h : TrNs sc es xs) : es.length = xs.length := by
  induction h with
  | nil => rfl
  | cons _ _ _ ih => rw [List.length_cons, List.length_cons, ih]
theorem pa_nms {es : List Expr} {xs : List Str} (O : Ok C CV cl n sc X W) (h : TrNs sc es xs) : PA X es (fun _ H Q => ∃ vs cvs, NmsAt X xs vs cvs ∧ Q vs H) := by
  induction h with
  | nil => exact ⟨fun pos pins s σ H Q I ⟨vs, cvs, h, q⟩ => pa_nil.run pos pins s σ H Q I (by cases h; exact q)⟩
  | @cons x p es xs hg hd ht ih =>
    have hnm : x ≠ "__name__" := by
      unfold dbg at hd; simp only [Bool.and_eq_true, Bool.not_eq_true', decide_eq_false_iff_not] at hd; exact hd.2
    refine ⟨fun pos pins s σ H Q I ⟨vs, cvs, h, q⟩ => (pa_cons (pe_nm (O.glo _ hg) hd hnm) ih (starE rfl)).run pos pins s σ H Q I ?_⟩
    cases h with | cons a b => exact ⟨_, _, a.rel, a.mg, _, _, b, q⟩
theorem nms_of {c : Nat} {D : Addr} (O : Ok C CV cl n sc X W) (hD : CV c = .ref D) : ∀ {xs : List Str}, (∀ y ∈ xs, ∃ b, C.isx y c = some b) → ∃ vs cvs, NmsAt X xs vs cvs ∧ PySem.W.kitAny X.K (.ref D) cvs = some (xs.any fun y => C.isx y c == some true)
  | [], _ => ⟨[], [], .nil, rfl⟩
  | y :: xs, h => by
    obtain ⟨vs, cvs, h1, h2⟩ := nms_of O hD (xs := xs) fun z hz => h z (List.mem_cons_of_mem _ hz)
    obtain ⟨b, hb⟩ := h y List.mem_cons_self
    obtain ⟨D', v, cv, hD', ex, hk, rv, hu, hm⟩ := O.isx _ _ _ hb
    rw [hD] at hD'
    cases hD'
    refine ⟨v :: vs, cv :: cvs, .cons ⟨rv, hu, hm⟩ h1, ?_⟩
    rw [List.any_cons, hb]
    unfold PySem.W.kitAny
    rw [hk]
    cases b with
    | true => rfl
    | false => exact h2
theorem isx_tup {e : Expr} {m : Ex} {xs : List Str} {es : List Expr} {k : Nat} {pos p2 : Pos} {Q : VK} (O : Ok C CV cl n sc X W) (a : PE X e (tE X.K W CV (ev cl m))) (hn : nst e = true) (ht : TrNs sc es xs) (hl : es.length ≤ 1000) (he0 : xs.isEmpty = false) (I : Inv X pins σ H s) (he : EnvOk X.K H ρ S.length en σ) (sim : Sim X.K ρ S H)
    (g : G X.K W CV σ ρ S H ((ev cl m en S).bind fun y S => (isxV (yesX C xs) (noX C xs) y S).bind fun b S => okP (.bool b) S) (QV X.K Q)) :
    wpAny (model X.prog X.w) X.A (callWith pos (.builtin "isinstance") [] (backTo pos (starEach [e, .Tuple es k p2] X.env)) (backToKw pos (keywordEach [] X.env))) (EP X pins σ Q) X.xe s := by
  have pa := pa_cons a (pa_cons (pe_tup (x1 := k) (pos := p2) (pa_nms O ht)) pa_nil (starE rfl)) (starE hn)
  refine PyProof.Rows.callWith_builtin1 (thn (pa.run _ pins s σ H (fun vs H1 => ∃ (c : Nat) (ad D tp : Addr) (p : Addr × Obj) (ws : List V) (cvs : List Value) (b : Bool), vs = [.ref ad, .ref tp] ∧ p ∈ X.pn ∧ L2H.Hot1 X.A p ∧ (xcP CV p).at' c ad ∧ CV c = .ref D ∧ L2.ExcC X.K D ∧ NmsAt X xs ws cvs ∧ PySem.W.kitAny X.K (.ref D) cvs = some b ∧ H1 tp = some (.tup ws) ∧ Q (.bl b) H1) I
    ⟨en, ρ, S, he, sim, (G.bind g).imp fun px ρ1 S1 H1 e1 s1 g1 y ry => ?_⟩) fun us s1 ⟨vs, H1, I1, r, c, ad, D, tp, p, ws, cvs, b, e, hp, hot, ha, hD, ex, hm, hk, htp, q⟩ => ?_) (starE hn) (by rw [starE rfl]; rfl)
  · obtain ⟨c, ad, p, rfl, hp, hot, ha, hb, q⟩ := isx_tail (cs := []) O s1 rfl rfl ry g1
    cases xs with
    | nil => cases he0
    | cons x0 xr =>
      obtain ⟨b0, hb0⟩ := hb x0 List.mem_cons_self
      obtain ⟨D, _, _, hD, ex, _⟩ := O.isx _ _ _ hb0
      obtain ⟨ws, cvs, hm, hk⟩ := nms_of O hD hb
      refine ⟨ws, cvs, hm, ?_, fun tp htp => ?_⟩
      · rw [hm.len, ← trns_len ht]
        exact Nat.le_trans hl (by decide)
      · obtain ⟨s2, e2⟩ := s1.laid (o := .tup ws) htp
        exact ⟨c, ad, D, tp, p, ws, cvs, _, rfl, hp, hot, ha, hD, ex, hm, hk, upd_same, q _ e2 s2⟩
  · subst e
    cases r with | cons r1 r2 =>
    cases r2 with | cons r2 r3 =>
    cases r3
    cases r1
    cases r2
    obtain ⟨its, hv, ⟨o, hget, hcls, nn, hdat⟩, _⟩ := I1.tuple (SqT.of htp)
    obtain ⟨ocls, odict, odata, oslots⟩ := o
    dsimp only at hcls hdat
    subst hcls hdat
    have := hm.vals hv
    subst this
    obtain ⟨oe, J⟩ := exc_inst I1 hp hot ha hD
    exact PySem.W.kia_tup (PySem.W.handS_kitx_exc ex.hg ex.hk ex.hs ex.hd ex.ha ex.hn ex.ht ex.hm) I1.kIn J hget hk (fun z => nomatch z) fun tk => ⟨.bl b, H1, I1.tok tk, rfl, q⟩
end
end Kp

set_option Elab.async false
set_option linter.all false
set_option maxRecDepth 100000
set_option maxHeartbeats 8000000
set_option autoImplicit false
/-! K9: every expression. -/
namespace Kp
open PySem PySem.Spec PyProof.Rows L2
variable [Xc]
section
variable {C : TC} {CV : Nat → Value} {cl : Cl} {n : Nat}
theorem dbg3 {x : Str} (h : dbg x = true) : x ≠ "__name__" := by
  unfold dbg at h; simp only [Bool.and_eq_true, Bool.not_eq_true', decide_eq_false_iff_not] at h; exact h.2
theorem Sound.mk {X : Cx} {W : WX} {e : Expr} {m : Ex} (h : PE X e (tE X.K W CV (ev cl m))) (hp : plE e = true) (hm : plM m = true) : Sound C CV cl n X W e m := ⟨h, pt_plain h hp hm⟩
mutual
theorem sndE : ∀ {sc : Scope} {e : Expr} {m : Ex}, TrE C sc e m → ∀ {X : Cx} {W : WX}, Ok C CV cl n sc X W → Sound C CV cl n X W e m
  | _, _, _, .v hN hv hd, X, W, O => by
    refine Sound.mk ?_ rfl rfl
    refine ⟨fun pins s σ H Q I hq => ?_⟩
    refine (pe_var (by rw [O.N]; exact hN) (O.vis _ hv) (dbg1 hd) (dbg2 hd)).run pins s σ H Q I ?_
    obtain ⟨en, ρ, S, he, sim, g⟩ := hq
    simp only [ev] at g
    split at g
    · rename_i x hx
      obtain ⟨v, e1, r⟩ := he.get _ _ hx
      exact ⟨v, e1, g ρ H Ext.refl sim v r⟩
    · exact g.elim
  | _, _, _, .int, X, W, O => by
    exact Sound.mk ⟨fun pins s σ H Q I ⟨en, ρ, S, he, sim, g⟩ => pe_int.run pins s σ H Q I (by simp only [ev] at g; exact g ρ H Ext.refl sim _ (.p (.int _)))⟩ rfl rfl
  | _, _, _, .bl, X, W, O => by
    exact Sound.mk ⟨fun pins s σ H Q I ⟨en, ρ, S, he, sim, g⟩ => pe_bl.run pins s σ H Q I (by simp only [ev] at g; exact g ρ H Ext.refl sim _ (.p (.bl _)))⟩ rfl rfl
  | _, _, _, .non, X, W, O => by
    exact Sound.mk ⟨fun pins s σ H Q I ⟨en, ρ, S, he, sim, g⟩ => pe_non.run pins s σ H Q I (by simp only [ev] at g; exact g ρ H Ext.refl sim _ (.p .non))⟩ rfl rfl
  | _, _, _, .str, X, W, O => by
    exact Sound.mk ⟨fun pins s σ H Q I ⟨en, ρ, S, he, sim, g⟩ => pe_str.run pins s σ H Q I (by simp only [ev] at g; exact g ρ H Ext.refl sim _ (.p (.str _)))⟩ rfl rfl
  | _, _, _, .glob hg hd hc, X, W, O => by
    obtain ⟨v, u, hm, r, rp⟩ := O.cst _ _ hc
    exact Sound.mk ⟨fun pins s σ H Q I ⟨en, ρ, S, he, sim, g⟩ => (pe_glob (O.glo _ hg) hm r (dbg1 hd)).run pins s σ H Q I (by simp only [ev] at g; exact g ρ H Ext.refl sim _ (.p (rp H)))⟩ rfl rfl
  | _, _, _, .bin ha hb, X, W, O => by
    have a := (sndE ha O).1
    have b := (sndE hb O).1
    refine Sound.mk ?_ rfl rfl
    refine ⟨fun pins s σ H Q I ⟨en, ρ, S, he, sim, g⟩ => ?_⟩
    simp only [ev] at g
    exact wpAny_BinOp (thn (ev1 a I he sim g) fun v s1 ⟨x, H1, ρ1, S1, px, A1, rv, rx, g1⟩ => thn (ev1 b A1.inv (he.ext A1.ext) A1.sim g1) fun u s2 ⟨y, H2, ρ2, S2, py, A2, ru, ry, g2⟩ =>
      bin_ok A2.inv A2.sim (rx.ext A2.ext) ry rv ru g2)
  | _, _, _, .cmp ha hb hs, X, W, O => by
    have a := (sndE ha O).1
    have b := (sndE hb O).1
    refine ⟨⟨fun pins s σ H Q I ⟨en, ρ, S, he, sim, g⟩ => ?_⟩, ⟨fun pins s σ H Q I ⟨en, ρ, S, he, sim, g⟩ => ?_⟩⟩
    · simp only [ev] at g
      refine wpAny_Compare1 (thn (ev1 a I he sim g) fun v s1 ⟨x, H1, ρ1, S1, px, A1, rv, rx, g1⟩ => thn (ev1 b A1.inv (he.ext A1.ext) A1.sim g1) fun u s2 ⟨y, H2, ρ2, S2, py, A2, ru, ry, g2⟩ => ?_) (behind_ns hs)
      refine thn (cmp_ok (Q := fun k H3 => Q (.bl k) H3) O.hu A2.inv A2.sim (rx.ext A2.ext) ry rv ru ((G.bind g2).imp fun k ρ3 S3 H3 e3 s3 g3 => G.okp g3 s3 (.bl k))) fun c s3 hc => ?_
      obtain ⟨z, H3, I3, r3, k, e, q⟩ := hc
      subst e
      exact ⟨_, H3, I3, r3, q⟩
    · simp only [evT] at g
      refine wpAny_isTrue_Compare1 (thn (ev1 a I he sim g) fun v s1 ⟨x, H1, ρ1, S1, px, A1, rv, rx, g1⟩ => thn (ev1 b A1.inv (he.ext A1.ext) A1.sim g1) fun u s2 ⟨y, H2, ρ2, S2, py, A2, ru, ry, g2⟩ => ?_) (behind_ns hs)
      refine thn (cmp_ok (Q := Q) O.hu A2.inv A2.sim (rx.ext A2.ext) ry rv ru g2) fun c s3 hc => ?_
      obtain ⟨z, H3, I3, r3, k, e, q⟩ := hc
      subst e
      cases r3
      exact wpAny_truthy_bool ⟨H3, I3, q⟩
  | _, _, _, .neg ha, X, W, O => by
    have a := (sndE ha O).1
    refine ⟨⟨fun pins s σ H Q I ⟨en, ρ, S, he, sim, g⟩ => ?_⟩, ⟨fun pins s σ H Q I ⟨en, ρ, S, he, sim, g⟩ => ?_⟩⟩
    · simp only [ev] at g
      refine UnaryOp_ (thn (ev1 a I he sim g) fun v s1 ⟨x, H1, ρ1, S1, px, A1, rv, rx, g1⟩ => ?_)
      split at g1
      · cases rx with | p r =>
        cases r
        exact un_neg pins s1 σ H1 _ v Q A1.inv rv ⟨_, rfl, G.okp g1 A1.sim (.int _)⟩
      · exact g1.elim
    · simp only [evT] at g; exact g.elim
  | _, _, _, .not' ha, X, W, O => by
    have a := (sndE ha O).1
    have t := (sndE ha O).2
    refine ⟨⟨fun pins s σ H Q I ⟨en, ρ, S, he, sim, g⟩ => ?_⟩, ⟨fun pins s σ H Q I ⟨en, ρ, S, he, sim, g⟩ => ?_⟩⟩
    · simp only [ev] at g
      refine UnaryOp_ (thn (ev1 a I he sim g) fun v s1 ⟨x, H1, ρ1, S1, px, A1, rv, rx, g1⟩ => ?_)
      refine not_of (thn (tru_ok pins s1 σ H1 x v (fun c H2 => Q (.bl (!c)) H2) A1.inv rv (tru_okV A1.sim rx ((G.bind g1).imp fun b ρ2 S2 H2 e2 s2 g2 => G.okp g2 s2 (.bl (!b))))) fun c s2 ⟨H2, I2, q2⟩ => ⟨.bl (!c), H2, I2, rfl, q2⟩)
    · simp only [evT] at g
      refine isTrue_not (thn (evT1 t I he sim g) fun b s1 ⟨H1, ρ1, S1, A1, g1⟩ => ⟨H1, A1.inv, G.okb g1 A1.sim⟩)
  | _, _, _, .ife ht ha hb, X, W, O => by
    have t := (sndE ht O).2
    have a := (sndE ha O).1
    have b := (sndE hb O).1
    refine ⟨⟨fun pins s σ H Q I ⟨en, ρ, S, he, sim, g⟩ => ?_⟩, ⟨fun pins s σ H Q I ⟨en, ρ, S, he, sim, g⟩ => ?_⟩⟩
    · simp only [ev] at g
      refine wpAny_IfExp (thn (evT1 t I he sim g) fun c s1 ⟨H1, ρ1, S1, A1, g1⟩ => ?_)
      cases c with
      | true => exact a.run pins s1 σ H1 Q A1.inv ⟨en, ρ1, S1, he.ext A1.ext, A1.sim, g1⟩
      | false => exact b.run pins s1 σ H1 Q A1.inv ⟨en, ρ1, S1, he.ext A1.ext, A1.sim, g1⟩
    · simp only [evT] at g; exact g.elim
  | _, _, _, .and' hb, X, W, O => ⟨(sndB hb O _).1, (sndB hb O _).2.pt⟩
  | _, _, _, .or' hb, X, W, O => ⟨(sndB hb O _).1, (sndB hb O _).2.pt⟩
  | _, _, _, .tup hs hl, X, W, O => by
    have a := sndEs hs O
    refine ⟨⟨fun pins s σ H Q I ⟨en, ρ, S, he, sim, g⟩ => ?_⟩, ⟨fun pins s σ H Q I ⟨en, ρ, S, he, sim, g⟩ => ?_⟩⟩
    · simp only [ev] at g
      refine (pe_tup a).run pins s σ H Q I ⟨en, ρ, S, he, sim, (G.bind g).imp fun ps ρ1 S1 H1 e1 s1 g1 xs rx => ?_⟩
      unfold tupV at g1
      split at g1
      · rename_i hz
        refine ⟨by rw [← rx.length]; exact sz hz, fun p hp => ?_⟩
        have k := Keep.fresh (HO.tup xs) hp
        split at g1
        · rename_i ds hds
          have : ∀ {ps : List PV} {ds : List P} {xs : List V}, allP ps = some ds → RelQs X.K H1 ρ1 S1.length ps xs → RelPs X.K H1 ds xs := by
            intro ps
            induction ps with
            | nil => intro ds xs h r; cases h; cases r; exact .nil
            | cons q ps IH =>
              intro ds xs h r
              cases r with | cons r1 r2 =>
              cases r1 with
              | p r1 =>
                unfold allP at h
                cases hq : allP ps with
                | none => rw [hq] at h; cases h
                | some es => rw [hq] at h; cases h; exact .cons r1 (IH hq r2)
              | loc _ => cases h
              | mt _ _ => cases h
              | exc _ => cases h
          exact g1 ρ1 _ (s1.laid hp).2 (s1.laid hp).1 _ (.p (.tup (SqT.of upd_same) ((this hds rx).keep k)))
        · exact g1 ρ1 _ (s1.laid hp).2 (s1.laid hp).1 _ (.mt (SqT.of upd_same) (rx.mono k (Nat.le_refl _) fun _ _ => rfl))
      · exact g1.elim
    · simp only [evT] at g; exact g.elim
  | _, _, _, .lst hs, X, W, O => by
    have a := sndEs hs O
    refine ⟨⟨fun pins s σ H Q I ⟨en, ρ, S, he, sim, g⟩ => ?_⟩, ⟨fun pins s σ H Q I ⟨en, ρ, S, he, sim, g⟩ => ?_⟩⟩
    · simp only [ev] at g
      refine (pe_lst a).run pins s σ H Q I ⟨en, ρ, S, he, sim, (G.bind g).imp fun ps ρ1 S1 H1 e1 s1 g1 xs rx => ?_⟩
      split at g1
      · rename_i ds hds
        have : ∀ {ps : List PV} {ds : List P} {xs : List V}, allP ps = some ds → RelQs X.K H1 ρ1 S1.length ps xs → RelPs X.K H1 ds xs := by
          intro ps
          induction ps with
          | nil => intro ds xs h r; cases h; cases r; exact .nil
          | cons q ps IH =>
            intro ds xs h r
            cases r with | cons r1 r2 =>
            cases r1 with
            | p r1 =>
              unfold allP at h
              cases hq : allP ps with
              | none => rw [hq] at h; cases h
              | some es => rw [hq] at h; cases h; exact .cons r1 (IH hq r2)
            | loc _ => cases h
            | mt _ _ => cases h
            | exc _ => cases h
        obtain ⟨z, q⟩ := G.newL g1 s1 (this hds rx)
        exact ⟨sz z, q⟩
      · exact g1.elim
    · simp only [evT] at g; exact g.elim
  | _, _, _, .dct0, X, W, O => by
    refine ⟨⟨fun pins s σ H Q I ⟨en, ρ, S, he, sim, g⟩ => ?_⟩, ⟨fun pins s σ H Q I ⟨en, ρ, S, he, sim, g⟩ => ?_⟩⟩
    · simp only [ev, evs, R.bind, dctV] at g
      refine pe_dnewK.run pins s σ H Q I fun p hp => ?_
      have e1 : (S ++ [Cell.dct []])[S.length]? = some (Cell.dct []) := by simp
      rw [e1] at g
      dsimp only at g
      have e2 : (S ++ [Cell.dct []]).set S.length (Cell.dct []) = S ++ [Cell.dct []] := by simp
      rw [e2] at g
      obtain ⟨s2, x2⟩ := sim.new (o := .dK []) (c := .dct []) hp ⟨[], upd_same, .nil⟩
      have z : RelQ X.K (upd H p (.dK [])) (put ρ S.length p) (S ++ [Cell.dct []]).length (.loc S.length) (.ref (put ρ S.length p S.length)) := .loc (by simp)
      rw [put_same] at z
      exact g _ _ x2 s2 _ z
    · simp only [evT] at g; exact g.elim
  | sc, _, _, .dct hd h15, X, W, O => by
    refine ⟨?_, ⟨fun pins s σ H Q I ⟨en, ρ, S, he, sim, g⟩ => ?_⟩⟩
    · exact dct_okD hd h15 (sndD hd O)
    · simp only [evT] at g; exact g.elim
  | _, _, _, .ix ha hb hs, X, W, O => by
    have a := (sndE ha O).1
    have b := (sndE hb O).1
    refine Sound.mk ?_ rfl rfl
    refine ⟨fun pins s σ H Q I ⟨en, ρ, S, he, sim, g⟩ => ?_⟩
    simp only [ev] at g
    exact Subscript_ (thn (ev1 a I he sim g) fun v s1 ⟨x, H1, ρ1, S1, px, A1, rv, rx, g1⟩ => thn (ev1 b A1.inv (he.ext A1.ext) A1.sim g1) fun u s2 ⟨y, H2, ρ2, S2, py, A2, ru, ry, g2⟩ =>
      ixtail_ok O.hu1 hs A2.inv A2.sim (rx.ext A2.ext) ry rv ru g2)
  | _, _, _, .sl ha hl hh, X, W, O => by
    have a := (sndE ha O).1
    have l := sndO hl O
    have h := sndO hh O
    refine ⟨⟨fun pins s σ H Q I ⟨en, ρ, S, he, sim, g⟩ => ?_⟩, ⟨fun pins s σ H Q I ⟨en, ρ, S, he, sim, g⟩ => ?_⟩⟩
    · simp only [ev] at g
      refine (pe_slice sl_all a l h).run pins s σ H Q I ⟨en, ρ, S, he, sim, (G.bind g).imp fun px ρ1 S1 H1 e1 s1 g1 x rx => ?_⟩
      refine ⟨en, ρ1, S1, he.ext e1, s1, (G.bind g1).imp fun lo ρ2 S2 H2 e2 s2 g2 => ?_⟩
      refine ⟨en, ρ2, S2, (he.ext e1).ext e2, s2, (G.bind g2).imp fun hi ρ3 S3 H3 e3 s3 g3 => ?_⟩
      exact sl_ok s3 ((rx.ext e2).ext e3) g3
    · simp only [evT] at g; exact g.elim
  | _, _, _, .rev ha, X, W, O => by
    have a := (sndE ha O).1
    refine ⟨⟨fun pins s σ H Q I ⟨en, ρ, S, he, sim, g⟩ => ?_⟩, ⟨fun pins s σ H Q I ⟨en, ρ, S, he, sim, g⟩ => ?_⟩⟩
    · simp only [ev] at g
      exact rev_ok a I he sim g
    · simp only [evT] at g; exact g.elim
  | _, _, _, .call hh hg hd hf hs, X, W, O => by
    have a := sndEs hs O
    refine Sound.mk ?_ rfl rfl
    have hn := hs
    cases hn with | cons h1 h2 =>
    cases hot : C.hot with
    | false =>
      obtain ⟨f, fd, ps, hm, hk, hb, F⟩ := O.fn _ _ hf
      refine ⟨fun pins s σ H Q I ⟨en, ρ, S, he, sim, g⟩ => ?_⟩
      simp only [ev] at g
      refine wpAny_Call_Name_kw (ld_glob I (O.glo _ hg) hm ?_ (dbg1 hd))
      refine PySem.W.callWith_K (h₀ := X.base) I.ok.mod.kin hk (thn (evs1 a I he sim g) fun us s1 ⟨xs, H1, ρ1, S1, ps, A1, r, rx, g1⟩ => ⟨A1.inv.kIn, ?_⟩) (starE h1.nst) h2.plain
      exact run_fnS (E := WE W) F (O.room hot) hb (L2N.passAt O.takes σ) A1.inv r ⟨ρ1, S1, ps, A1.sim, relQs_cold (O.cold hot) rx, G_cold g1⟩
    | true =>
      obtain ⟨f, fd, ps, hm, hk, hb, F⟩ := O.fnH _ _ hf (by rw [hot] at hh; simpa using hh)
      obtain ⟨p, hp, hpn, e⟩ := O.warm hot
      refine ⟨fun pins s σ H Q I ⟨en, ρ, S, he, sim, g⟩ => ?_⟩
      simp only [ev] at g
      refine wpAny_Call_Name_kw (ld_glob I (O.glo _ hg) hm ?_ (dbg1 hd))
      refine PySem.W.callWith_K (h₀ := X.base) I.ok.mod.kin hk (thn (evs1 a I he sim g) fun us s1 ⟨xs, H1, ρ1, S1, ps, A1, r, rx, g1⟩ => ⟨A1.inv.kIn, ?_⟩) (starE h1.nst) h2.plain
      exact run_fnX (E := WE W) F (O.roomH hot) hp hpn hb (L2N.passAt O.takes σ) A1.inv r (e ▸ ⟨ρ1, S1, ps, A1.sim, rx, g1⟩)
  | _, _, _, .call0 hh hg hd hf, X, W, O => by
    refine Sound.mk ?_ rfl rfl
    cases hot : C.hot with
    | false =>
      obtain ⟨f, fd, ps, hm, hk, hb, F⟩ := O.fn _ _ hf
      refine ⟨fun pins s σ H Q I ⟨en, ρ, S, he, sim, g⟩ => ?_⟩
      simp only [ev, evs] at g
      refine wpAny_Call_Name_kw (ld_glob I (O.glo _ hg) hm ?_ (dbg1 hd))
      exact PySem.W.callWith_K0 I.kIn hk (run_fnS (us := []) (E := WE W) F (O.room hot) hb (L2N.passAt O.takes σ) I .nil ⟨ρ, S, [], sim, @RelQs.nil xc0 _ _ _ _, G_cold g⟩)
    | true =>
      obtain ⟨f, fd, ps, hm, hk, hb, F⟩ := O.fnH _ _ hf (by rw [hot] at hh; simpa using hh)
      obtain ⟨p, hp, hpn, e⟩ := O.warm hot
      refine ⟨fun pins s σ H Q I ⟨en, ρ, S, he, sim, g⟩ => ?_⟩
      simp only [ev, evs] at g
      refine wpAny_Call_Name_kw (ld_glob I (O.glo _ hg) hm ?_ (dbg1 hd))
      exact PySem.W.callWith_K0 I.kIn hk (run_fnX (us := []) (E := WE W) F (O.roomH hot) hp hpn hb (L2N.passAt O.takes σ) I .nil (e ▸ ⟨ρ, S, [], sim, .nil, g⟩))
  | _, _, _, .bi hh hb hr hg hf hs, X, W, O => by
    have a := sndEs hs O
    obtain ⟨b1, b2, b3⟩ := bi_boot hb
    refine Sound.mk ?_ rfl rfl
    refine ⟨fun pins s σ H Q I ⟨en, ρ, S, he, sim, g⟩ => ?_⟩
    simp only [ev] at g
    refine wpAny_Call_Name_kw (ld_blt I (O.glo _ hg) (O.fre _ hf) b1 ?_ b2 b3)
    have hn := hs
    cases hn with | cons h1 h2 =>
    exact PyProof.Rows.callWith_builtin1 (thn (evs1 a I he sim g) fun us s1 ⟨xs, H1, ρ1, S1, ps, A1, r, rx, g1⟩ => bi_ok (fun hq => O.calm (by rw [hq] at hh; simpa using hh)) hb A1.inv A1.sim rx r g1) (starE h1.nst) h2.plain
  | _, _, _, .mxd hh hg hf ha hd, X, W, O => by
    have a := (sndE ha O).1
    have d := (sndE hd O).1
    have hs := ha.nst
    refine Sound.mk ?_ rfl rfl
    refine ⟨fun pins s σ H Q I ⟨en, ρ, S, he, sim, g⟩ => ?_⟩
    simp only [ev] at g
    rw [evs2] at g
    refine (pe_callBK (cr_maxD (O.calm hh) (by have := O.hu; omega)) (O.glo _ hg) (O.fre _ hf) (by decide +kernel) (pa_cons a pa_nil (starE hs)) (pk_cons d pk_nil) (by decide +kernel) (by decide +kernel) (by rw [starE hs]; rfl) (by rw [starE hs]; rfl)).run pins s σ H Q I ?_
    exact ⟨en, ρ, S, he, sim, (G.bind g).imp fun px ρ1 S1 H1 e1 s1 g1 x rx => ⟨en, ρ1, S1, he.ext e1, s1, (G.bind g1).imp fun py ρ2 S2 H2 e2 s2 g2 y ry => maxd_G s2 (rx.ext e2) ry g2⟩⟩
  | _, _, _, .bt hh hb hg hf hs, X, W, O => by
    have a := sndEs hs O
    obtain ⟨b1, b2, b3⟩ := bt_boot hb
    refine Sound.mk ?_ rfl rfl
    refine ⟨fun pins s σ H Q I ⟨en, ρ, S, he, sim, g⟩ => ?_⟩
    simp only [ev] at g
    refine wpAny_Call_Name_kw (ld_blt I (O.glo _ hg) (O.fre _ hf) b1 ?_ b2 b3)
    have hn := hs
    cases hn with | cons h1 h2 =>
    exact PyProof.Rows.callWith_type1 (thn (evs1 a I he sim g) fun us s1 ⟨xs, H1, ρ1, S1, ps, A1, r, rx, g1⟩ => bt_ok (fun hq => O.calm (by rw [hq] at hh; simpa using hh)) hb A1.inv A1.sim rx r g1) (starE h1.nst) h2.plain
  | _, _, _, .mth ho hs hl h20 hb hline, X, W, O => by
    have h := mth_ok O (sndE ho O).1 (sndEs hs O) hs hl h20 hb hline
    exact Sound.mk h rfl rfl
  | _, _, _, .isi (t := t) (p2 := p2) hg hf hg2 hf2 ha, X, W, O => by
    have a := (sndE ha O).1
    obtain ⟨t1, t2, t3⟩ := ty_boot t
    refine Sound.mk ?_ rfl rfl
    refine ⟨fun pins s σ H Q I ⟨en, ρ, S, he, sim, g⟩ => ?_⟩
    simp only [ev] at g
    refine wpAny_Call_Name_kw (ld_blt I (O.glo _ hg) (O.fre _ hf) (show bootBuiltins ("isinstance" : Str) = some (.builtin "isinstance") from by decide +kernel) ?_ (by decide +kernel) (by decide +kernel))
    have pty : PE X (.Name (tyId t : Str) p2) (tC (.ty (tyId t))) := pe_bltn (O.glo _ hg2) (O.fre _ hf2) t1 rfl t2 t3
    have pa := pa_cons a (pa_cons pty pa_nil (starE rfl)) (starE ha.nst)
    refine PyProof.Rows.callWith_builtin1 (thn (pa.run _ pins s σ H (fun xs H1 => ∃ ρ1 S1 px x, xs = [x, .ty (tyId t)] ∧ Sim X.K ρ1 S1 H1 ∧ RelQ X.K H1 ρ1 S1.length px x ∧ G X.K W CV σ ρ1 S1 H1 ((isiV t px S1).bind fun b S => okP (.bool b) S) (QV X.K Q)) I
      ⟨en, ρ, S, he, sim, (G.bind g).imp fun px ρ1 S1 H1 e1 s1 g1 x rx => ⟨ρ1, S1, px, x, rfl, s1, rx, g1⟩⟩) fun us s1 ⟨xs, H1, I1, r, ρ1, S1, px, x, e, sm, rx, g1⟩ => ?_) (starE ha.nst) (by rw [starE rfl]; rfl)
    subst e
    refine thn (isi_ok (Q := fun k H3 => Q (.bl k) H3) I1 sm rx r ((G.bind g1).imp fun k ρ3 S3 H3 e3 s3 g3 => G.okp g3 s3 (.bl k))) fun c s3 hc => ?_
    obtain ⟨z, H3, I3, r3, k, e, q⟩ := hc
    subst e
    exact ⟨_, H3, I3, r3, q⟩
  | _, _, _, .isx hg hf ha hg2 hd2, X, W, O => by
    have a := (sndE ha O).1
    refine Sound.mk ?_ rfl rfl
    refine ⟨fun pins s σ H Q I ⟨en, ρ, S, he, sim, g⟩ => ?_⟩
    simp only [ev] at g
    refine wpAny_Call_Name_kw (ld_blt I (O.glo _ hg) (O.fre _ hf) (show bootBuiltins ("isinstance" : Str) = some (.builtin "isinstance") from by decide +kernel) ?_ (by decide +kernel) (by decide +kernel))
    exact isx_one O a ha.nst hg2 hd2 I he sim g
  | _, _, _, .isxT hg hf ha hn hl h0, X, W, O => by
    have a := (sndE ha O).1
    refine Sound.mk ?_ rfl rfl
    refine ⟨fun pins s σ H Q I ⟨en, ρ, S, he, sim, g⟩ => ?_⟩
    simp only [ev] at g
    refine wpAny_Call_Name_kw (ld_blt I (O.glo _ hg) (O.fre _ hf) (show bootBuiltins ("isinstance" : Str) = some (.builtin "isinstance") from by decide +kernel) ?_ (by decide +kernel) (by decide +kernel))
    exact isx_tup O a ha.nst hn hl h0 I he sim g
  | _, _, _, .comp (sc' := sc') (i := i) hh hi hblk hloc hN hc he, X, W, O => by
    have hI := snd_I2 hi O
    refine ⟨⟨fun pins s σ H Q I hq => ?_⟩, ⟨fun pins s σ H Q I ⟨en, ρ, S, he, sim, g⟩ => ?_⟩⟩
    · refine (pe_lc (own := [(_, i)]) (O.calm hh) (by rw [O.N]; exact O.nd) hI (O.bok hblk) (g := gName i) (tt := tT X.K W0 CV (evC cl _)) (te := tE X.K W0 CV (ev cl _)) (fun s H D cl' fp => ?_) (fun s H D cl' fp => ?_) (fun s H D cl' fp => ?_) (folded_ns (snd_ns hi))).run pins s σ H Q I (comp_ok σ H Q hq)
      · have O2 := O.blk (sc' := sc') hh s H D cl' fp
        exact pg_name (X := X.blk s H sc' (compEnvC sc' cl' D X.env) fp) (by show X.N.Nodup; rw [O.N]; exact O.nd) (by show X.N[i]? = _; rw [O.N]; exact hN) (O2.loc _ hloc).1 (O2.loc _ hloc).2
      · exact sndC hc (O.blk (sc' := sc') hh s H D cl' fp)
      · exact (sndE he (O.blk (sc' := sc') hh s H D cl' fp)).1
    · simp only [evT] at g; exact g.elim
theorem sndB : ∀ {sc : Scope} {op : PySem.BoolOp} {l : List Expr} {m : Ex}, TrB C sc op l m → ∀ {X : Cx} {W : WX}, Ok C CV cl n sc X W → ∀ pos, PE X (.BoolOp op l pos) (tE X.K W CV (ev cl m)) ∧ PW X (.BoolOp op l pos) (tT X.K W CV (evT cl m))
  | _, .And, _, _, .one ha, X, W, O, pos => by
    have a := sndE ha O
    refine ⟨pe_one a.1, ⟨fun wh pins s σ H Q I h => ?_⟩⟩
    exact (pw_and1 (pos := pos) a.2).run wh pins s σ H Q I h
  | _, .Or, _, _, .one ha, X, W, O, pos => by
    have a := sndE ha O
    refine ⟨pe_one a.1, ⟨fun wh pins s σ H Q I h => ?_⟩⟩
    exact (pw_or1 (pos := pos) a.2).run wh pins s σ H Q I h
  | _, _, _, _, .and' ha hb, X, W, O, pos => by
    have a := sndE ha O
    have b := sndB hb O pos
    refine ⟨⟨fun pins s σ H Q I ⟨en, ρ, S, he, sim, g⟩ => ?_⟩, ⟨fun wh pins s σ H Q I ⟨en, ρ, S, he, sim, g⟩ => ?_⟩⟩
    · simp only [ev] at g
      refine (pe_and a.1 b.1).run pins s σ H Q I ⟨en, ρ, S, he, sim, (G.bind g).imp fun px ρ1 S1 H1 e1 s1 g1 x rx => ?_⟩
      split at g1
      · rename_i c
        cases rx with | p r =>
        cases r
        refine ⟨c, rfl, ?_⟩
        cases c with
        | true => exact ⟨en, ρ1, S1, he.ext e1, s1, g1⟩
        | false => exact G.okp g1 s1 (.bl false)
      · exact g1.elim
    · simp only [evT] at g
      refine (pw_and a.2 b.2).run wh pins s σ H Q I ⟨en, ρ, S, he, sim, (G.bind g).imp fun c ρ1 S1 H1 e1 s1 g1 => ?_⟩
      cases c with
      | true => exact ⟨en, ρ1, S1, he.ext e1, s1, g1⟩
      | false => exact G.okb g1 s1
  | _, _, _, _, .or' ha hb, X, W, O, pos => by
    have a := sndE ha O
    have b := sndB hb O pos
    refine ⟨⟨fun pins s σ H Q I ⟨en, ρ, S, he, sim, g⟩ => ?_⟩, ⟨fun wh pins s σ H Q I ⟨en, ρ, S, he, sim, g⟩ => ?_⟩⟩
    · simp only [ev] at g
      refine (pe_or a.1 b.1).run pins s σ H Q I ⟨en, ρ, S, he, sim, (G.bind g).imp fun px ρ1 S1 H1 e1 s1 g1 x rx => ?_⟩
      split at g1
      · rename_i c
        cases rx with | p r =>
        cases r
        refine ⟨c, rfl, ?_⟩
        cases c with
        | false => exact ⟨en, ρ1, S1, he.ext e1, s1, g1⟩
        | true => exact G.okp g1 s1 (.bl true)
      · exact g1.elim
    · simp only [evT] at g
      refine (pw_or a.2 b.2).run wh pins s σ H Q I ⟨en, ρ, S, he, sim, (G.bind g).imp fun c ρ1 S1 H1 e1 s1 g1 => ?_⟩
      cases c with
      | false => exact ⟨en, ρ1, S1, he.ext e1, s1, g1⟩
      | true => exact G.okb g1 s1
theorem sndEs : ∀ {sc : Scope} {es : List Expr} {ms : Exs}, TrEs C sc es ms → ∀ {X : Cx} {W : WX}, Ok C CV cl n sc X W → PA X es (tA X.K W CV (evs cl ms))
  | _, _, _, .nil, X, W, O => ⟨fun pos pins s σ H Q I ⟨en, ρ, S, he, sim, g⟩ => pa_nil.run pos pins s σ H Q I (by simp only [evs] at g; exact g ρ H Ext.refl sim _ .nil)⟩
  | _, _, _, .cons ha hs, X, W, O => by
    have a := (sndE ha O).1
    have b := sndEs hs O
    refine ⟨fun pos pins s σ H Q I ⟨en, ρ, S, he, sim, g⟩ => ?_⟩
    simp only [evs] at g
    refine (pa_cons a b (starE ha.nst)).run pos pins s σ H Q I ⟨en, ρ, S, he, sim, (G.bind g).imp fun px ρ1 S1 H1 e1 s1 g1 x rx => ?_⟩
    refine ⟨en, ρ1, S1, he.ext e1, s1, (G.bind g1).imp fun ps ρ2 S2 H2 e2 s2 g2 xs rxs => ?_⟩
    exact g2 ρ2 H2 Ext.refl s2 _ (.cons (rx.ext e2) rxs)
theorem sndO : ∀ {sc : Scope} {e : Option Expr} {m : Oe}, TrO C sc e m → ∀ {X : Cx} {W : WX}, Ok C CV cl n sc X W → PO X e (fun σ H Q => ∃ en ρ S, EnvOk X.K H ρ S.length en σ ∧ Sim X.K ρ S H ∧ G X.K W CV σ ρ S H (evO cl m en S) (fun b _ _ H' => Q b H'))
  | _, _, _, .non, X, W, O => ⟨fun pins s σ H Q I ⟨en, ρ, S, he, sim, g⟩ => po_none.run pins s σ H Q I (by simp only [evO] at g; exact g ρ H Ext.refl sim)⟩
  | _, _, _, .one ha, X, W, O => by
    have a := (sndE ha O).1
    refine ⟨fun pins s σ H Q I ⟨en, ρ, S, he, sim, g⟩ => ?_⟩
    simp only [evO] at g
    refine (po_some a).run pins s σ H Q I ⟨en, ρ, S, he, sim, (G.bind g).imp fun px ρ1 S1 H1 e1 s1 g1 x rx => ?_⟩
    split at g1
    · cases rx with | p r =>
      cases r
      exact ⟨_, rfl, g1 ρ1 H1 Ext.refl s1⟩
    · exact g1.elim
theorem sndC : ∀ {sc : Scope} {ifs : List Expr} {m : Oe}, TrC C sc ifs m → ∀ {X : Cx} {W : WX}, Ok C CV cl n sc X W → PTs X ifs (tT X.K W CV (evC cl m))
  | _, _, _, .non, X, W, O => ⟨fun pins s σ H Q I ⟨en, ρ, S, he, sim, g⟩ => wpAny_tests_nil ⟨H, I, G.okb g sim⟩⟩
  | _, _, _, .one ha, X, W, O => pts_one (sndE ha O).2
theorem sndD : ∀ {sc : Scope} {keys : List (Option Expr)} {es : List Expr} {ks : List Str} {ms : Exs}, TrD C sc keys es ks ms → ∀ {X : Cx} {W : WX}, Ok C CV cl n sc X W → ∀ pos,
    ∃ trs, PPs X pos keys es trs ∧ ∀ σ H Q, DP X W CV (evs cl ms) ks σ H Q → tPairs trs σ H Q
  | _, _, _, _, _, .nil, X, W, O, pos => by
    refine ⟨[], pps_nil, fun σ H Q ⟨en, ρ, S, he, sim, g⟩ => ?_⟩
    simp only [evs] at g
    exact (g ρ H Ext.refl sim [] .nil).2
  | _, _, _, _, _, .cons (k := k) h1 h2, X, W, O, pos => by
    obtain ⟨trs, hp, hq⟩ := sndD h2 O pos
    refine ⟨(tC (.str k), tE X.K W CV (ev cl _)) :: trs, pps_cons pe_str (sndE h1 O).1 hp, fun σ H Q ⟨en, ρ, S, he, sim, g⟩ => ?_⟩
    simp only [evs] at g
    show tE X.K W CV (ev cl _) σ H fun y H2 => tPairs trs σ H2 fun ps H3 => Q ((V.str k, y) :: ps) H3
    refine ⟨en, ρ, S, he, sim, (G.bind g).imp fun px ρ1 S1 H1 e1 s1 g1 y ry => ?_⟩
    refine hq σ H1 _ ⟨en, ρ1, S1, he.ext e1, s1, (G.bind g1).imp fun ps ρ2 S2 H2 e2 s2 g2 xs rxs => ?_⟩
    obtain ⟨l, q⟩ := g2 ρ2 H2 Ext.refl s2 (y :: xs) (.cons (ry.ext e2) rxs)
    exact ⟨by simpa using l, q⟩
theorem snd_I2 : ∀ {sc : Scope} {tg it : Expr} {m : Ix}, TrI C sc tg it m → ∀ {X : Cx} {W : WX}, Ok C CV cl n sc X W → PI X tg it (tI X.K W CV (evI cl m))
  | _, _, _, _, .val h hs, X, W, O => pi_val O (sndE h O).1
  | _, _, _, _, .rng1 hg hf h, X, W, O => pi_r1 O hg hf h (sndE h O).1
  | _, _, _, _, .rng2 hg hf h h2, X, W, O => pi_r2 O hg hf h h2 (sndE h O).1 (sndE h2 O).1
  | _, _, _, _, .zip hg hf h h2, X, W, O => pi_z O hg hf h h2 (sndE h O).1 (sndE h2 O).1
  | _, _, _, _, .revR hg hf hg2 hf2 h, X, W, O => pi_rr O hg hf hg2 hf2 h (sndE h O).1
  | _, _, _, _, .revL hg hf h, X, W, O => pi_rl O hg hf h (sndE h O).1
end
end
end Kp

set_option Elab.async false
set_option linter.all false
set_option maxRecDepth 100000
set_option maxHeartbeats 8000000
set_option autoImplicit false
/-! K10: statements. -/
namespace Kp
open PySem PySem.Spec PyProof.Rows L2
section
variable [Xc]
variable {K : PySem.W.Frag} {W : WX} {CV : Nat → Value} {σ : L2.St} {ρ : Nat → Addr} {S : Sto} {H : Hp} {en : En}
def GS (K : PySem.W.Frag) (W : WX) (CV : Nat → Value) (D : Ends) (ρ : Nat → Addr) (S : Sto) (H : Hp) (r : RS) : Prop := match r with
  | .nx en S' => ∀ ρ' H' σ', Ext ρ S H ρ' S' H' → Sim K ρ' S' H' → EnvOk K H' ρ' S'.length en σ' → D.nx σ' H'
  | .rt v S' => ∀ ρ' H' x, Ext ρ S H ρ' S' H' → Sim K ρ' S' H' → RelQ K H' ρ' S'.length v x → D.rt x H'
  | .ct en S' => ∀ ρ' H' σ', Ext ρ S H ρ' S' H' → Sim K ρ' S' H' → EnvOk K H' ρ' S'.length en σ' → D.ct σ' H'
  | .ex c en S' => ∀ ρ' H' σ', Ext ρ S H ρ' S' H' → Sim K ρ' S' H' → EnvOk K H' ρ' S'.length en σ' → W (CV c) none σ' H'
  | .no => False
theorem GS.from {D : Ends} {ρ1 : Nat → Addr} {S1 : Sto} {H1 : Hp} {r : RS} (h : GS K W CV D ρ S H r) (e : Ext ρ S H ρ1 S1 H1) : GS K W CV D ρ1 S1 H1 r := by
  cases r with
  | nx en S' => exact fun ρ' H' σ' e' s x => h ρ' H' σ' (e.trans e') s x
  | rt v S' => exact fun ρ' H' x e' s r => h ρ' H' x (e.trans e') s r
  | ct en S' => exact fun ρ' H' σ' e' s x => h ρ' H' σ' (e.trans e') s x
  | ex c en S' => exact fun ρ' H' σ' e' s x => h ρ' H' σ' (e.trans e') s x
  | no => exact h
theorem GS.st {α : Type} {D : Ends} {r : R α} {f : α → Sto → RS} (h : GS K W CV D ρ S H (r.st en f)) (he : EnvOk K H ρ S.length en σ) : G K W CV σ ρ S H r fun a ρ' S' H' => GS K W CV D ρ' S' H' (f a S') := by
  cases r with
  | ok a S' =>
    intro ρ' H' e s
    have h : GS K W CV D ρ S H (f a S') := h
    exact h.from e
  | ex c S' => exact fun ρ' H' e s => h ρ' H' σ e s (he.ext e)
  | no => exact h
def tS (K : PySem.W.Frag) (W : WX) (CV : Nat → Value) (f : En → Sto → RS) : TS := fun D σ H => ∃ en ρ S, EnvOk K H ρ S.length en σ ∧ Sim K ρ S H ∧ GS K W CV D ρ S H (f en S)
/-! targets -/
theorem env_fold {L : Nat} : ∀ {is : List Nat} {vs : List PV} {xs : List V} {en : En} {σ : L2.St}, EnvOk K H ρ L en σ → RelQs K H ρ L vs xs →
    EnvOk K H ρ L ((is.zip vs).foldl (fun e q => e.set q.1 (some q.2)) en) ((is.zip xs).foldl (fun e q => e.set q.1 (some q.2)) σ)
  | [], _, _, _, _, h, r => by simpa using h
  | _ :: _, [], _, _, _, h, r => by cases r; simpa using h
  | i :: is, v :: vs, _, en, σ, h, r => by
    cases r with | cons r1 r2 =>
    rw [List.zip_cons_cons, List.zip_cons_cons, List.foldl_cons, List.foldl_cons]
    exact env_fold (h.set r1) r2
theorem relPs_qs {L : Nat} : ∀ {ds : List P} {xs : List V}, RelPs K H ds xs → RelQs K H ρ L (ds.map .p) xs
  | [], _, h => by cases h; exact .nil
  | d :: ds, _, h => by
    cases h with | cons a b => exact .cons (.p a) (relPs_qs b)
def gNms (is : List Nat) : TGs := fun vs σ H Q => vs.length = is.length ∧ Q ((is.zip vs).foldl (fun e q => e.set q.1 (some q.2)) σ) H
theorem tgV_ok {tg : Tg} {v : PV} {en en' : En} {x : V} {Q : L2.St → Hp → Prop} (he : EnvOk K H ρ S.length en σ) (rx : RelQ K H ρ S.length v x) (h : tgV tg v en = some en') (q : ∀ σ', EnvOk K H ρ S.length en' σ' → Q σ' H) :
    (match tg with | .nm i => gName i | .tp is => gTup K is.length (gNms is)) x σ H Q := by
  cases tg with
  | nm i =>
    have h : some (en.set i (some v)) = some en' := h
    cases h
    exact q _ (he.set rx)
  | tp is =>
    unfold tgV at h
    dsimp only at h
    split at h
    · cases rx with | p r =>
      cases r with | tup a b =>
      split at h
      · rename_i hl
        cases h
        refine ⟨_, _, rfl, a, by rw [← b.length]; exact hl, by rw [← b.length]; exact hl, q _ ?_⟩
        have := env_fold (is := is) he (relPs_qs (ρ := ρ) (L := S.length) b)
        rw [List.zip_map_right, List.foldl_map] at this
        exact this
      · cases h
    · cases rx with | mt a b =>
      split at h
      · rename_i hl
        cases h
        exact ⟨_, _, rfl, a, by rw [← b.length]; exact hl, by rw [← b.length]; exact hl, q _ (env_fold he b)⟩
      · cases h
    · cases h
end
section
variable [Xc] {C : TC} {CV : Nat → Value} {cl : Cl} {n : Nat} {sc : Scope} {X : Cx} {W : WX}
theorem pgs_ok {es : List Expr} {is : List Nat} (O : Ok C CV cl n sc X W) (h : TrGs C sc es is) : PGs X es (gNms is) := by
  induction es generalizing is with
  | nil =>
    cases h
    refine ⟨fun pins s σ H vs us Q I r q => pgs_nil.run pins s σ H vs us Q I r ?_⟩
    obtain ⟨l, q⟩ := q
    have : vs = [] := List.eq_nil_of_length_eq_zero l
    subst this
    exact ⟨rfl, q⟩
  | cons e es IH =>
    cases h with
    | @cons x p i es is hN hl h2 =>
    have hd := pg_name (X := X) (pos := p) (i := i) (x := x) (by rw [O.N]; exact O.nd) (by rw [O.N]; exact hN) (O.loc _ hl).1 (O.loc _ hl).2
    refine ⟨fun pins s σ H vs us Q I r q => (pgs_cons hd (IH h2) rfl).run pins s σ H vs us Q I r ?_⟩
    obtain ⟨l, q⟩ := q
    cases vs with
    | nil => cases l
    | cons v vs => exact ⟨v, vs, rfl, by simpa using l, q⟩
theorem trgs_each {es : List Expr} {is : List Nat} {env : Env} (h : TrGs C sc es is) : (assignEach es env).length = is.length ∧ (assignEach es env).findIdx? (·.1) = none := by
  induction es generalizing is with
  | nil => cases h; exact ⟨rfl, rfl⟩
  | cons e es IH =>
    cases h with
    | cons hN hl h2 =>
    obtain ⟨a, b⟩ := IH h2
    refine ⟨?_, ?_⟩
    · show (assignEach es env).length + 1 = _
      rw [a]; rfl
    · show List.findIdx? (·.1) ((false, _) :: assignEach es env) = none
      rw [List.findIdx?_cons, b]; rfl
def kN (X : Cx) (tg : Tg) : TG := match tg with | .nm i => gName i | .tp is => gTup X.K is.length (gNms is)
theorem pg_ok {tg : Expr} {t : Tg} (O : Ok C CV cl n sc X W) (h : TrG C sc tg t) : PG X tg (kN X t) := by
  cases h with
  | nm hN hl => exact pg_name (by rw [O.N]; exact O.nd) (by rw [O.N]; exact hN) (O.loc _ hl).1 (O.loc _ hl).2
  | tp hh h2 => exact pg_tup (O.calm hh) (pgs_ok O h2) (trgs_each h2).1 (trgs_each h2).2
/-! o[i] = v -/
def tSetV (K : PySem.W.Frag) : TSet := fun o i v H Q => ∃ ρ S po pi pv, Sim K ρ S H ∧ RelQ K H ρ S.length po o ∧ RelQ K H ρ S.length pi i ∧ RelQ K H ρ S.length pv v ∧
  (match setV po pi pv S with | .ok _ S' => ∀ ρ' H', Ext ρ S H ρ' S' H' → Sim K ρ' S' H' → Q H' | _ => False)
theorem set_ok (hu : X.A.units + 1 < cLine) : PSet X (tSetV X.K) := by
  intro pins s σ H o i v ov iv u Q I ro ri rv h
  obtain ⟨ρ, S, po, pi, pv, sim, r1, r2, r3, g⟩ := h
  unfold setV at g
  split at g
  · rename_i r hr
    split at hr
    · cases r1 with | loc hl => cases r2 with | p r2 => cases r3 with | p r3 =>
      split at hr
      · rename_i l _ _ _ ds hd
        obtain ⟨xs, q1, rs⟩ := sim.lst hd
        split at hr
        · cases r2
          split at hr
          · rename_i j hj
            cases hr
            rw [rs.length] at hj
            refine set_list pins s σ H _ _ _ ov iv u Q I ro ri rv ⟨_, xs, _, j, rfl, rfl, q1, hj, ?_⟩
            have w := sim.write (i := l) (o := .lst (xs.set j v)) (c := .lst (ds.set j _)) hd ⟨_, upd_same, (rs.set j r3).keep (Keep.write _ q1 (fun z => z))⟩
            exact g ρ _ w.2 w.1
          · cases hr
        · cases hr
      · rename_i l _ _ _ ds hd
        obtain ⟨ws, q1, rs⟩ := sim.dct hd
        split at hr
        · rename_i k hk
          split at hr
          · rename_i c
            cases hr
            have ek := keyP_rel r2 hk
            subst ek
            obtain rfl : ov = Value.ref _ := ro
            refine d_setItem hu I (DPut.k (k := k) (v := v) q1 (by rw [← rs.length]; exact szl c)) ri rv fun s' I' => ⟨_, I', ?_⟩
            have w := sim.write (i := l) (o := .dK (putK ws k v)) (c := .dct (puK ds k _)) hd ⟨_, upd_same, (puK_eq rs r3).keep (Keep.write _ q1 (fun z => z))⟩
            exact g ρ _ w.2 w.1
          · cases hr
        · cases hr
      · cases hr
    · cases hr
  · exact g.elim
theorem sub_asg {o i : Expr} {pos : Pos} {env : Env} (h : isSl i = false) (v : Value) : assign (.Subscript o i pos) env v = (do
      let ov ← holding [v] (eval o env)
      let iv ← holding [v, ov] (eval i env)
      standAt pos
      holding [v, ov, iv] (setItem ov iv v)
      release [v, ov, iv] []) := by
  cases i <;> first | rfl | skip
  rename_i lo hi st p
  cases st with
  | none => cases h
  | some x => rfl
theorem sws_nl {t e : Expr} {l : Nat} {env : Env} (h : isLc e = false) : swapsWithSole [t] e l env = pure false := sw_nl h
theorem swst_nt {es : List Expr} {k : Nat} {p : Pos} {e : Expr} {env : Env} (h : isTup e = false) : swappedStores [.Tuple es k p] e env = pure none := by
  cases e <;> first | rfl | cases h
theorem swst_sub {o i : Expr} {p : Pos} {e : Expr} {env : Env} : swappedStores [.Subscript o i p] e env = pure none := by
  cases e <;> rfl
structure OkS [Xc] (C : TC) (CV : Nat → Value) (cl : Cl) (n : Nat) (sc : Scope) (X : Cx) (W : WX) : Prop where
  ok : Ok C CV cl n sc X W
  pass : C.hot = false → PassesOwn (model X.prog X.w) X.A X.env X.xe
  stk : X.stack = X.env :: X.outer
  frm : X.env.frame = some X.env.locals
  exm : ∀ c k b, C.exm c k = some b → PySem.W.exmOne X.K (CV c) (CV k) = some b
  cls : ∀ x c, C.cls x = some c → ∃ a, X.mg x = some (.ref a) ∧ CV c = .ref a ∧ PySem.W.excIn X.K a [.type "ValueError", .type "Exception", .type "BaseException", .type "object"] "ValueError.__new__" = true ∧ PySem.W.keepIn X.K (.ref a) = true ∧
    PySem.W.subIn X.K (.ref a) (.type "BaseException") = some true ∧ PySem.W.typeIn X.K (.ref a) = some (.type "type")
theorem asg_ok {σ : L2.St} {H : Hp} {D : Ends} {tg : Tg} {m : Ex} (h : tS X.K W CV (exs cl (.asg tg m)) D σ H) : tE X.K W CV (ev cl m) σ H fun x H1 => kN X tg x σ H1 D.nx := by
  obtain ⟨en, ρ, S, he, sim, g⟩ := h
  simp only [exs] at g
  refine ⟨en, ρ, S, he, sim, (g.st he).imp fun px ρ1 S1 H1 e1 s1 g1 x rx => ?_⟩
  split at g1
  · rename_i en' hen
    exact tgV_ok (he.ext e1) rx hen fun σ' he' => g1 ρ1 H1 σ' Ext.refl s1 he'
  · exact g1.elim
theorem for_okS {σ : L2.St} {H : Hp} {D : Ends} {tg : Tg} {it : Ix} {b : Sms} (h : tS X.K W CV (exs cl (.for' tg it b)) D σ H) : tFor (tI X.K W CV (evI cl it)) (kN X tg) (tS X.K W CV (exss cl b)) D σ H := by
  obtain ⟨en, ρ, S, he, sim, g⟩ := h
  simp only [exs] at g
  refine ⟨en, ρ, S, he, sim, (g.st he).imp fun q ρ1 S1 H1 e1 s1 g1 J wk => ?_⟩
  obtain ⟨its, w⟩ := q
  dsimp only at g1 wk
  refine ⟨fun k m σ H' => m = its.length - k ∧ ∃ en ρ' S', EnvOk X.K H' ρ' S'.length en σ ∧ Ext ρ1 S1 H1 ρ' S' H' ∧ Sim X.K ρ' S' H' ∧ GS X.K W CV D ρ' S' H' (forL tg w (exss cl b) (its.drop k) en S'), ⟨its.length, by simp, en, ρ1, S1, he.ext e1, Ext.refl, s1, by rw [List.drop_zero]; exact g1⟩, ?_⟩
  rintro k m σ H' ⟨rfl, en, ρ', S', he, ex, sm, g2⟩
  cases hd : its.drop k with
  | nil =>
    have hk : its.length ≤ k := by
      have := congrArg List.length hd
      rw [List.length_drop] at this
      simp at this; omega
    rw [hd] at g2
    unfold forL at g2
    split at g2
    · rename_i hw
      exact .inl ⟨(wk ρ' S' H' ex sm hw k).2 hk, g2 ρ' H' σ Ext.refl sm he⟩
    · exact g2.elim
  | cons x r =>
    have hk : its[k]? = some x := by
      have := congrArg (·[0]?) hd
      simpa using this
    have hr : its.drop (k + 1) = r := by
      have := congrArg List.tail hd
      simpa using this
    have hkl := getE_lt hk
    rw [hd] at g2
    unfold forL at g2
    split at g2
    · rename_i hw
      obtain ⟨hgo, hy⟩ := (wk ρ' S' H' ex sm hw k).1 x hk
      refine .inr ⟨hgo, fun σ H' => ∃ en ρ' S', EnvOk X.K H' ρ' S'.length en σ ∧ Ext ρ1 S1 H1 ρ' S' H' ∧ Sim X.K ρ' S' H' ∧ GS X.K W CV D ρ' S' H' (forL tg w (exss cl b) r en S'), fun σ' H'' h => ⟨its.length - (k + 1), by omega, rfl, by rw [hr]; exact h⟩, fun y H'' yl => ?_⟩
      obtain ⟨sh, ry⟩ := hy y H'' yl
      have sm2 := sm.same sh
      have ex2 : Ext ρ' S' H' ρ' S' H'' := ⟨Nat.le_refl _, fun _ _ => rfl, sh.keep⟩
      have g3 := g2.from ex2
      split at g3
      · rename_i en1 hen
        refine tgV_ok (he.ext ex2) ry hen fun σ2 he2 => ⟨en1, ρ', S', he2, sm2, ?_⟩
        cases hb : exss cl b en1 S' with
        | nx en2 S2 =>
          rw [hb] at g3
          exact fun ρ3 H3 σ3 e3 s3 he3 => ⟨en2, ρ3, S2, he3, (ex.trans ex2).trans e3, s3, g3.from e3⟩
        | ct en2 S2 =>
          rw [hb] at g3
          exact fun ρ3 H3 σ3 e3 s3 he3 => ⟨en2, ρ3, S2, he3, (ex.trans ex2).trans e3, s3, g3.from e3⟩
        | rt v S2 => rw [hb] at g3; exact g3
        | ex c en2 S2 => rw [hb] at g3; exact g3
        | no => rw [hb] at g3; exact g3
      · exact g3.elim
    · exact g2.elim
theorem while_okS {σ : L2.St} {H : Hp} {D : Ends} {t : Ex} {b : Sms} (h : tS X.K W CV (exs cl (.while t b)) D σ H) : tWhile (tT X.K W CV (evT cl t)) (tS X.K W CV (exss cl b)) D σ H := by
  obtain ⟨en, ρ, S, he, sim, g⟩ := h
  simp only [exs] at g
  refine ⟨fun m σ H => ∃ en ρ S, EnvOk X.K H ρ S.length en σ ∧ Sim X.K ρ S H ∧ GS X.K W CV D ρ S H (whileL (evT cl t) (exss cl b) m en S), ⟨_, en, ρ, S, he, sim, g⟩, ?_⟩
  rintro m σ H ⟨en, ρ, S, he, sim, g⟩
  cases m with
  | zero => exact g.elim
  | succ m =>
    unfold whileL at g
    refine ⟨en, ρ, S, he, sim, (g.st he).imp fun c ρ1 S1 H1 e1 s1 g1 => ?_⟩
    cases c with
    | false => exact g1 ρ1 H1 σ Ext.refl s1 (he.ext e1)
    | true =>
      rw [if_pos rfl] at g1 ⊢
      refine ⟨fun σ H => ∃ en ρ S, EnvOk X.K H ρ S.length en σ ∧ Sim X.K ρ S H ∧ GS X.K W CV D ρ S H (whileL (evT cl t) (exss cl b) m en S), fun σ' H' h => ⟨m, Nat.lt_succ_self _, h⟩, en, ρ1, S1, he.ext e1, s1, ?_⟩
      cases hb : exss cl b en S1 with
      | nx en2 S2 =>
        rw [hb] at g1
        exact fun ρ3 H3 σ3 e3 s3 he3 => ⟨en2, ρ3, S2, he3, s3, g1.from e3⟩
      | ct en2 S2 =>
        rw [hb] at g1
        exact fun ρ3 H3 σ3 e3 s3 he3 => ⟨en2, ρ3, S2, he3, s3, g1.from e3⟩
      | rt v S2 => rw [hb] at g1; exact g1
      | ex c en2 S2 => rw [hb] at g1; exact g1
      | no => rw [hb] at g1; exact g1
theorem env_non {K : PySem.W.Frag} {H : Hp} {ρ : Nat → Addr} {L i : Nat} {en : En} {σ : L2.St} (z : Option V) (h : EnvOk K H ρ L en σ) : EnvOk K H ρ L (en.set i none) (σ.set i z) := by
  refine ⟨by simp [h.len], fun j u g => ?_⟩
  by_cases hj : j = i
  · subst hj
    have lt : j < en.length := by have := getE_lt g; simpa using this
    rw [List.getElem?_set_self lt] at g
    cases g
  · rw [List.getElem?_set_ne (Ne.symm hj)] at g
    rw [List.getElem?_set_ne (Ne.symm hj)]
    exact h.get j u g
abbrev W0x : WX := fun _ _ _ _ => False
/-- what is handled, by its place, class, dict -/
def xcT (CV : Nat → Value) (a : Addr) (cls : Value) (d : Option Addr) : Xc := ⟨fun c b => b = a ∧ cls = CV c ∧ d = none⟩
theorem Ok.heat {a : Addr} {oe : Obj} {pn : List (Addr × Obj)} {cls : Value} {d : Option Addr} (hh : C.hot = false) (O : Ok C CV cl n sc X W) (hz : L2N.Zn cls d oe) (hf : ∃ vs, oe.data = .fields vs) : @Ok (xcT CV a cls d) C.heat CV cl n sc (X.suite a ((a, oe) :: pn)) W0x := by
  obtain ⟨rfl, rfl, hc⟩ := hz
  obtain ⟨vs, hv⟩ := hf
  exact @Ok.mk (xcT CV a oe.cls oe.dict) _ _ _ _ _ _ _ O.N O.nd (fun h => by cases h) (fun h => by cases h) O.hu (fun u s' ⟨_, _, _, _, _, _, _, _, _, _, _, _, _, _, _, _, w⟩ => w.elim)
    O.vis O.glo O.loc O.lo O.ce O.cf O.fre O.cst O.fn (fun h => by cases h) (fun _ => ⟨(a, oe), ⟨rfl, vs, hv, hc vs hv⟩, List.mem_cons_self, rfl⟩) (fun _ => ⟨(O.room hh).dp, (O.room hh).un⟩) O.fnH O.isx
theorem OkS.heat {a : Addr} {oe : Obj} {pn : List (Addr × Obj)} {cls : Value} {d : Option Addr} (hh : C.hot = false) (O : OkS C CV cl n sc X W) (hz : L2N.Zn cls d oe) (hf : ∃ vs, oe.data = .fields vs) : @OkS (xcT CV a cls d) C.heat CV cl n sc (X.suite a ((a, oe) :: pn)) W0x :=
  @OkS.mk (xcT CV a cls d) _ _ _ _ _ _ _ (O.ok.heat hh hz hf) (fun h => by cases h) O.stk O.frm O.exm O.cls
theorem Ok.tr {pn : List (Addr × Obj)} {xe : Value → Shared → Prop} {W' : WX} (hh : C.hot = false) (O : Ok C CV cl n sc X W) (t : L2N.Takes (X.tr pn xe) W') : Ok C CV cl n sc (X.tr pn xe) W' where
  N := O.N
  nd := O.nd
  calm := O.calm
  room := O.room
  hu := O.hu
  takes := t
  vis := O.vis
  glo := O.glo
  loc := O.loc
  lo := O.lo
  ce := O.ce
  cf := O.cf
  fre := O.fre
  cst := O.cst
  fn := O.fn
  cold := O.cold
  warm := fun h => by rw [hh] at h; cases h
  roomH := O.roomH
  fnH := O.fnH
  isx := O.isx
theorem OkS.tr {pn : List (Addr × Obj)} {xe : Value → Shared → Prop} {W' : WX} (hh : C.hot = false) (O : OkS C CV cl n sc X W) (t : L2N.Takes (X.tr pn xe) W') (p : PassesOwn (model X.prog X.w) X.A X.env xe) : OkS C CV cl n sc (X.tr pn xe) W' :=
  ⟨O.ok.tr hh t, fun _ => p, O.stk, O.frm, O.exm, O.cls⟩
theorem yes_ok {c k : Nat} (O : OkS C CV cl n sc X W) (h : (yesL C k).contains c = true) : PySem.W.exmOne X.K (CV c) (CV k) = some true := by
  have h := List.contains_iff_mem.mp h
  exact O.exm _ _ _ (by have := (List.mem_filter.mp h).2; exact eq_of_beq this)
theorem no_ok {c k : Nat} (O : OkS C CV cl n sc X W) (h : (noL C k).contains c = true) : PySem.W.exmOne X.K (CV c) (CV k) = some false := by
  have h := List.contains_iff_mem.mp h
  exact O.exm _ _ _ (by have := (List.mem_filter.mp h).2; exact eq_of_beq this)
/-- the handlers as the rule wants them -/
def hdL (K : PySem.W.Frag) (CV : Nat → Value) (cl : Cl) : List (Nat × Sms) → List (Value × (Addr → Value → Option Addr → TS))
  | [] => []
  | (k, m) :: r => (CV k, fun a c d => @tS (xcT CV a c d) K W0x CV (exss cl m)) :: hdL K CV cl r
def hsOf (C : TC) : List (Nat × Sms) → Hs
  | [] => .nil
  | (k, m) :: r => .cons (yesL C k) (noL C k) m (hsOf C r)
theorem noEx_ok {ξ ξ' : Xc} {D : Ends} {ρ : Nat → Addr} {S : Sto} {H : Hp} {K : PySem.W.Frag} {W W' : WX} {r : RS} (h : @GS ξ K W CV D ρ S H (noEx r)) : @GS ξ' K W' CV D ρ S H r := by
  unfold noEx at h
  cases r with
  | ex c en S => exact h.elim
  | no => exact h
  | nx en S =>
    dsimp only at h
    split at h
    · exact h.elim
    · rename_i hx
      exact fun ρ' H' σ' e s he => h ρ' H' σ' e s (EnvOk.free (by simpa using hx) he)
  | ct en S =>
    dsimp only at h
    split at h
    · exact h.elim
    · rename_i hx
      exact fun ρ' H' σ' e s he => h ρ' H' σ' e s (EnvOk.free (by simpa using hx) he)
  | rt v S =>
    dsimp only at h
    split at h
    · exact h.elim
    · rename_i hx
      exact fun ρ' H' x e s rx => h ρ' H' x e s (RelQ.free _ _ (by simpa using hx) rx)
/-- the same for a handler with a name -/
theorem gone_ok {ξ ξ' : Xc} {i : Nat} {D : Ends} {ρ : Nat → Addr} {S : Sto} {H : Hp} {K : PySem.W.Frag} {W W' : WX} {r : RS} (h : @GS ξ K W CV D ρ S H (goneR i r)) :
    @GS ξ' K W' CV { nx := fun σ' H' => D.nx (σ'.set i none) H', rt := D.rt, bk := fun σ' H' => D.bk (σ'.set i none) H', ct := fun σ' H' => D.ct (σ'.set i none) H' } ρ S H r := by
  unfold goneR at h
  cases r with
  | ex c en S => exact h.elim
  | no => exact h
  | nx en S =>
    dsimp only at h
    split at h
    · exact h.elim
    · rename_i hx
      exact fun ρ' H' σ' e s he => h ρ' H' _ e s (EnvOk.free (by simpa using hx) (@env_non ξ' _ _ _ _ _ _ _ none he))
  | ct en S =>
    dsimp only at h
    split at h
    · exact h.elim
    · rename_i hx
      exact fun ρ' H' σ' e s he => h ρ' H' _ e s (EnvOk.free (by simpa using hx) (@env_non ξ' _ _ _ _ _ _ _ none he))
  | rt v S =>
    dsimp only at h
    split at h
    · exact h.elim
    · rename_i hx
      exact fun ρ' H' x e s rx => h ρ' H' x e s (RelQ.free _ _ (by simpa using hx) rx)
theorem hds_ok {D : Ends} (hh : C.hot = false) (O : OkS C CV cl n sc X W) : ∀ {l : List (Nat × Sms)} {c : Nat} {en : En} {ρ : Nat → Addr} {S : Sto} {H : Hp} {σ : L2.St}, GS X.K W CV D ρ S H (hds cl (hsOf C l) c en S) → Sim X.K ρ S H → EnvOk X.K H ρ S.length en σ →
    wMany X.K W D (hdL X.K CV cl l) (CV c) none σ H
  | [], c, en, ρ, S, H, σ, g, sim, he => by
    simp only [hsOf, hds] at g
    exact g ρ H σ Ext.refl sim he
  | (k, m) :: r, c, en, ρ, S, H, σ, g, sim, he => by
    simp only [hsOf, hds] at g
    split at g
    · rename_i h
      exact ⟨true, yes_ok O h, fun _ a _ => ⟨en, ρ, S, EnvOk.to (fun c a z => absurd z (O.ok.cold hh c a)) he, sim, noEx_ok g⟩, fun h => by cases h⟩
    · split at g
      · rename_i h
        exact ⟨false, no_ok O h, (fun h => by cases h), fun _ => hds_ok hh O g sim he⟩
      · exact g.elim
end
section
variable {CV : Nat → Value} {cl : Cl} {n : Nat}
mutual
theorem sndS [ξ : Xc] : ∀ {C : TC} {sc : Scope} {st : Stmt} {m : Sm}, TrS C sc st m → ∀ {X : Cx} {W : WX}, OkS C CV cl n sc X W → PS X st (tS X.K W CV (exs cl m))
  | _, _, _, _, .asgN hN hl he hn, X, W, O => by
    have a := (sndE he O.ok).1
    refine ⟨fun pins s σ H D I h => (ps_set (by rw [O.ok.N]; exact O.ok.nd) (by rw [O.ok.N]; exact hN) (O.ok.loc _ hl).1 a (sw_nl hn) (O.ok.loc _ hl).2).run pins s σ H D I (asg_ok h)⟩
  | _, _, _, _, .asgD hN hl he hc, X, W, O => by
    have a := (sndE he O.ok).1
    refine ⟨fun pins s σ H D I h => (ps_set (by rw [O.ok.N]; exact O.ok.nd) (by rw [O.ok.N]; exact hN) (O.ok.loc _ hl).1 a ?_ (O.ok.loc _ hl).2).run pins s σ H D I (asg_ok h)⟩
    have hk : X.env.kindOf _ = some .cell := O.ok.ce _ hc
    unfold swapsWith
    have z2 : (NameKind.cell == NameKind.local) = false := by decide
    cases he <;> first | rfl | (simp only [hk]; simp; rw [z2, Bool.and_false, Bool.false_and, Bool.false_and])
  | _, _, _, _, .asgC hN hl he hsw, X, W, O => by
    refine ⟨fun pins s σ H D I h => ?_⟩
    cases he with
    | @comp _ sc' tgx tp i iter elt ifs it tst e pos hh hi hblk hloc hN' hc he =>
      have hI := snd_I2 hi O.ok
      simp only [swB, Bool.and_eq_true, Bool.not_eq_true'] at hsw
      obtain ⟨⟨h1, h2⟩, h3⟩ := hsw
      split at h1
      · rename_i hlk
        refine (ps_setLc (own := [(_, i)]) (O.ok.calm hh) (by rw [O.ok.N]; exact O.ok.nd) (by rw [O.ok.N]; exact hN) (O.ok.lo _ hlk) (sw_true I.ok.kind (O.ok.lo _ hlk) h2 h3) hI (O.ok.bok hblk) (g := gName i) (tt := tT X.K W0 CV (evC cl tst)) (te := tE X.K W0 CV (ev cl e)) (fun s H D cl' fp => ?_) (fun s H D cl' fp => ?_) (fun s H D cl' fp => ?_) (folded_ns (snd_ns hi))).run pins s σ H D I (comp_ok σ H _ (asg_ok h))
        · have O2 := O.ok.blk (sc' := sc') hh s H D cl' fp
          exact pg_name (X := X.blk s H sc' (compEnvC sc' cl' D X.env) fp) (by show X.N.Nodup; rw [O.ok.N]; exact O.ok.nd) (by show X.N[i]? = _; rw [O.ok.N]; exact hN') (O2.loc _ hloc).1 (O2.loc _ hloc).2
        · exact sndC hc (O.ok.blk (sc' := sc') hh s H D cl' fp)
        · exact (sndE he (O.ok.blk (sc' := sc') hh s H D cl' fp)).1
      · cases h1
    | _ => cases hsw
  | _, _, _, _, .asgT hh hg he hn ht, X, W, O => by
    have a := (sndE he O.ok).1
    exact ⟨fun pins s σ H D I h => (ps_asg a (pg_ok O.ok (.tp hh hg)) (sws_nl hn) (swst_nt ht) rfl).run pins s σ H D I (asg_ok h)⟩
  | _, _, _, _, .setI ho hi he hn hs, X, W, O => by
    have a := (sndE ho O.ok).1
    have b := (sndE hi O.ok).1
    have c := (sndE he O.ok).1
    refine ⟨fun pins s σ H D I ⟨en, ρ, S, hen, sim, g⟩ => (ps_asg c (pg_sub a b (set_ok O.ok.hu1) (sub_asg hs)) (sws_nl hn) swst_sub rfl).run pins s σ H D I ?_⟩
    simp only [exs] at g
    refine ⟨en, ρ, S, hen, sim, (g.st hen).imp fun pv ρ1 S1 H1 e1 s1 g1 v rv => ?_⟩
    have he1 := hen.ext e1
    refine ⟨en, ρ1, S1, he1, s1, (g1.st he1).imp fun po ρ2 S2 H2 e2 s2 g2 o ro => ?_⟩
    have he2 := he1.ext e2
    refine ⟨en, ρ2, S2, he2, s2, (g2.st he2).imp fun pi ρ3 S3 H3 e3 s3 g3 i ri => ?_⟩
    have he3 := he2.ext e3
    refine ⟨ρ3, S3, po, pi, pv, s3, ro.ext e3, ri, (rv.ext e2).ext e3, ?_⟩
    cases hq : setV po pi pv S3 with
    | ok u S4 => rw [hq] at g3; exact fun ρ4 H4 e4 s4 => g3 ρ4 H4 σ e4 s4 (he3.ext e4)
    | ex c S4 =>
      exfalso
      unfold setV at hq
      repeat' split at hq
      all_goals cases hq
    | no => rw [hq] at g3; exact g3
  | _, _, _, _, .ex he hn, X, W, O => by
    have a := (sndE he O.ok).1
    refine ⟨fun pins s σ H D I ⟨en, ρ, S, hen, sim, g⟩ => (ps_expr a (sw_nl hn)).run pins s σ H D I ?_⟩
    simp only [exs] at g
    exact ⟨en, ρ, S, hen, sim, (g.st hen).imp fun pv ρ1 S1 H1 e1 s1 g1 v rv => g1 ρ1 H1 σ Ext.refl s1 (hen.ext e1)⟩
  | _, _, _, _, .ret he, X, W, O => by
    have a := (sndE he O.ok).1
    refine ⟨fun pins s σ H D I ⟨en, ρ, S, hen, sim, g⟩ => (ps_ret a).run pins s σ H D I ?_⟩
    simp only [exs] at g
    exact ⟨en, ρ, S, hen, sim, (g.st hen).imp fun pv ρ1 S1 H1 e1 s1 g1 v rv => g1 ρ1 H1 v Ext.refl s1 rv⟩
  | _, _, _, _, .retN, X, W, O => by
    refine ⟨fun pins s σ H D I ⟨en, ρ, S, hen, sim, g⟩ => ps_retN.run pins s σ H D I ?_⟩
    simp only [exs] at g
    exact g ρ H .non Ext.refl sim (.p .non)
  | _, _, _, _, .ift ht ha hb, X, W, O => by
    have t := (sndE ht O.ok).2
    have a := sndSs ha O
    have b := sndSs hb O
    refine ⟨fun pins s σ H D I ⟨en, ρ, S, hen, sim, g⟩ => (ps_if t a b).run pins s σ H D I ?_⟩
    simp only [exs] at g
    refine ⟨en, ρ, S, hen, sim, (g.st hen).imp fun c ρ1 S1 H1 e1 s1 g1 => ?_⟩
    cases c with
    | true => exact ⟨en, ρ1, S1, hen.ext e1, s1, g1⟩
    | false => exact ⟨en, ρ1, S1, hen.ext e1, s1, g1⟩
  | _, _, _, _, .for' hh hg hi hb, X, W, O =>
    ⟨fun pins s σ H D I h => (ps_for (O.pass hh) (O.ok.calm hh) (snd_I2 hi O.ok) (pg_ok O.ok hg) (sndSs hb O) (folded_ns (snd_ns hi))).run pins s σ H D I (for_okS h)⟩
  | _, _, _, _, .while hh ht hb, X, W, O =>
    ⟨fun pins s σ H D I h => (ps_while (O.pass hh) (sndE ht O.ok).2 (sndSs hb O)).run pins s σ H D I (while_okS h)⟩
  | _, _, _, _, .raise hh hg hd hc, X, W, O => by
    obtain ⟨a, h1, h2, h3, h4, h5, h6⟩ := O.cls _ _ hc
    refine ⟨fun pins s σ H D I ⟨en, ρ, S, hen, sim, g⟩ => (L2N.ps_raise (O.ok.calm hh) O.ok.takes (L2N.pmk_own PySem.F.excBase_ValueError h3 h1 h4 (raises_own h5 h6) (O.ok.glo _ hg) (dbg1 hd))).run pins s σ H D I ?_⟩
    simp only [exs] at g
    have := g ρ H σ Ext.refl sim hen
    rw [h2] at this
    exact this
  | _, _, _, _, .cont, X, W, O => ⟨fun pins s σ H D I ⟨en, ρ, S, hen, sim, g⟩ => ps_continue.run pins s σ H D I (by simp only [exs] at g; exact g ρ H σ Ext.refl sim hen)⟩
  | _, _, _, _, .pass, X, W, O => ⟨fun pins s σ H D I ⟨en, ρ, S, hen, sim, g⟩ => ps_pass.run pins s σ H D I (by simp only [exs] at g; exact g ρ H σ Ext.refl sim hen)⟩
  | _, _, _, _, .tryM (C := C) hh hb ht, X, W, O => by
    obtain ⟨l, rfl, hds'⟩ := sndHs ht hh O
    refine ⟨fun pins s σ H D I ⟨en, ρ, S, hen, sim, g⟩ => (L2N.ps_try_many (l := hdL X.K CV cl l) (tb := fun W' => tS X.K W' CV (exss cl _)) O.stk O.frm O.ok.takes (fun W' pn xe t p => sndSs hb (O.tr hh t p)) hds').run pins s σ H D I ⟨en, ρ, S, hen, sim, ?_⟩⟩
    simp only [exs] at g
    cases hq : exss cl _ en S with
    | ex c en2 S2 =>
      rw [hq] at g
      exact fun ρ3 H3 σ3 e3 s3 he3 => hds_ok hh O (GS.from g e3) s3 he3
    | nx en2 S2 => rw [hq] at g; exact g
    | ct en2 S2 => rw [hq] at g; exact g
    | rt v S2 => rw [hq] at g; exact g
    | no => rw [hq] at g; exact g
  | _, _, _, _, .tryA (C := C) (k := k) (i := i) (h := h) hh hb hg hd hc hN hl hs, X, W, O => by
    obtain ⟨a, h1, h2, _⟩ := O.cls _ _ hc
    refine ⟨fun pins s σ H D I ⟨en, ρ, S, hen, sim, g⟩ => (L2N.ps_try_as (c := CV k) (i := i) (tb := fun W' => tS X.K W' CV (exss cl _)) (ts := fun a c d => @tS (xcT CV a c d) X.K W0x CV (exss cl h)) O.stk O.frm (by rw [O.ok.N]; exact O.ok.nd) (by rw [O.ok.N]; exact hN) (O.ok.lo _ hl) ⟨O.ok.glo _ hg, dbg1 hd, .inl (by rw [h1, h2])⟩ O.ok.takes
      (fun W' pn xe t p => sndSs hb (O.tr hh t p)) (fun a oe cls d pn hz hf => sndSs (ξ := xcT CV a cls d) hs (O.heat hh hz hf))).run pins s σ H D I ⟨en, ρ, S, hen, sim, ?_⟩⟩
    simp only [exs] at g
    cases hq : exss cl _ en S with
    | ex c en2 S2 =>
      rw [hq] at g
      intro ρ3 H3 σ3 e3 s3 he3
      have g3 := GS.from g e3
      dsimp only at g3
      split at g3
      · rename_i hy
        refine ⟨true, yes_ok O hy, fun _ ad _ => ⟨en2.set i (some (.exc c)), ρ3, S2, @EnvOk.set (xcT CV ad (CV c) none) _ _ _ _ _ _ _ _ _ (EnvOk.to (fun c a z => absurd z (O.ok.cold hh c a)) he3) (@RelQ.exc (xcT CV ad (CV c) none) _ _ _ _ _ _ ⟨rfl, rfl, rfl⟩), s3, gone_ok g3⟩, fun z => by cases z⟩
      · split at g3
        · rename_i hy
          exact ⟨false, no_ok O hy, (fun z => by cases z), fun _ => g3 ρ3 H3 σ3 Ext.refl s3 he3⟩
        · exact g3.elim
    | nx en2 S2 => rw [hq] at g; exact g
    | ct en2 S2 => rw [hq] at g; exact g
    | rt v S2 => rw [hq] at g; exact g
    | no => rw [hq] at g; exact g
theorem sndHs [ξ : Xc] : ∀ {C : TC} {sc : Scope} {hs : List ExceptHandler} {h : Hs}, TrHs C sc hs h → C.hot = false → ∀ {X : Cx} {W : WX}, OkS C CV cl n sc X W → ∃ l, h = hsOf C l ∧ L2N.HdsOk X hs (hdL X.K CV cl l)
  | _, _, _, _, .nil, hh, X, W, O => ⟨[], rfl, .nil⟩
  | _, _, _, _, .cons (k := k) (m := m) hg hd hc hb hr, hh, X, W, O => by
    obtain ⟨l, rfl, h2⟩ := sndHs hr hh O
    obtain ⟨a, h1, h3, _⟩ := O.cls _ _ hc
    exact ⟨(k, m) :: l, rfl, .cons ⟨O.ok.glo _ hg, dbg1 hd, .inl (by rw [h1, h3])⟩ (fun a oe cls d pn hz hf => sndSs (ξ := xcT CV a cls d) hb (O.heat hh hz hf)) h2⟩
theorem sndSs [ξ : Xc] : ∀ {C : TC} {sc : Scope} {sts : List Stmt} {m : Sms}, TrSs C sc sts m → ∀ {X : Cx} {W : WX}, OkS C CV cl n sc X W → PSs X sts (tS X.K W CV (exss cl m))
  | _, _, _, _, .nil, X, W, O => ⟨fun pins s σ H D I ⟨en, ρ, S, hen, sim, g⟩ => pss_nil.run pins s σ H D I (by simp only [exss] at g; exact g ρ H σ Ext.refl sim hen)⟩
  | _, _, _, _, .cons hs hr, X, W, O => by
    have a := sndS hs O
    have b := sndSs hr O
    refine ⟨fun pins s σ H D I ⟨en, ρ, S, hen, sim, g⟩ => (pss_cons a b).run pins s σ H D I ⟨en, ρ, S, hen, sim, ?_⟩⟩
    simp only [exss] at g
    cases hq : exs cl _ en S with
    | nx en2 S2 =>
      rw [hq] at g
      exact fun ρ3 H3 σ3 e3 s3 he3 => ⟨en2, ρ3, S2, he3, s3, GS.from g e3⟩
    | ct en2 S2 => rw [hq] at g; exact g
    | rt v S2 => rw [hq] at g; exact g
    | ex c en2 S2 => rw [hq] at g; exact g
    | no => rw [hq] at g; exact g
end
end
end Kp

set_option Elab.async false
set_option linter.all false
set_option maxRecDepth 100000
set_option maxHeartbeats 8000000
set_option autoImplicit false
/-! K11: defs. -/
namespace Kp
open PySem PySem.Spec PyProof.Rows L2
section
variable [Xc] {K : PySem.W.Frag} {H : Hp} {ρ : Nat → Addr}
/-- the new cells' map -/
def rn (n : Nat) (ks : List Nat) (ρ : Nat → Addr) : Nat → Addr := fun i => if i < n then ρ i else match ks[i - n]? with
  | some k => ρ k
  | none => 0
theorem rn_lt {n i : Nat} {ks : List Nat} (h : i < n) : rn n ks ρ i = ρ i := by unfold rn; rw [if_pos h]
theorem rn_ge {n j k : Nat} {ks : List Nat} (h : ks[j]? = some k) : rn n ks ρ (n + j) = ρ k := by
  unfold rn
  rw [if_neg (by omega), Nat.add_sub_cancel_left, h]
theorem rn_more {n i : Nat} {ks more : List Nat} (h : i < n + ks.length) : rn n (ks ++ more) ρ i = rn n ks ρ i := by
  unfold rn
  by_cases c : i < n
  · rw [if_pos c, if_pos c]
  · rw [if_neg c, if_neg c, List.getElem?_append_left (by omega)]
structure Kept (n L : Nat) (ks : List Nat) : Prop where
  in' : ∀ k ∈ ks, n ≤ k ∧ k < L
  nd : ks.Nodup
mutual
theorem gcV_ok {n L : Nat} : ∀ (v : PV) (x : V) (ks : List Nat), RelQ K H ρ L v x → Kept n L ks →
    (∃ more, (gcV n v ks).2 = ks ++ more) ∧ Kept n L (gcV n v ks).2 ∧ RelQ K H (rn n (gcV n v ks).2 ρ) (n + (gcV n v ks).2.length) (gcV n v ks).1 x
  | .p d, x, ks, r, hk => by
    cases r with | p r =>
    simp only [gcV]
    exact ⟨⟨[], by simp⟩, hk, .p r⟩
  | .loc k, x, ks, r, hk => by
    cases r with | loc hl =>
    simp only [gcV]
    by_cases c : k < n
    · rw [if_pos c]
      refine ⟨⟨[], by simp⟩, hk, ?_⟩
      have z : RelQ K H (rn n ks ρ) (n + ks.length) (.loc k) (.ref (rn n ks ρ k)) := .loc (by omega)
      rw [rn_lt c] at z; exact z
    · rw [if_neg c]
      cases hq : ks.idxOf? k with
      | some j =>
        have hj : ks[j]? = some k := by
          rw [List.idxOf?_eq_some_iff] at hq
          obtain ⟨hlt, he, _⟩ := hq
          rw [List.getElem?_eq_getElem hlt]
          simpa using he
        refine ⟨⟨[], by simp⟩, hk, ?_⟩
        have z : RelQ K H (rn n ks ρ) (n + ks.length) (.loc (n + j)) (.ref (rn n ks ρ (n + j))) := .loc (by have := getE_lt hj; omega)
        rw [rn_ge hj] at z; exact z
      | none =>
        have hn : k ∉ ks := by rw [List.idxOf?_eq_none_iff] at hq; exact hq
        refine ⟨⟨[k], rfl⟩, ⟨fun a ha => ?_, ?_⟩, ?_⟩
        · rcases List.mem_append.mp ha with h | h
          · exact hk.in' a h
          · have : a = k := by simpa using h
            subst this; exact ⟨by omega, hl⟩
        · rw [List.nodup_append]
          exact ⟨hk.nd, by simp, fun a ha b hb => by
            have : b = k := by simpa using hb
            subst this; exact fun e => hn (e ▸ ha)⟩
        · have hj : (ks ++ [k])[ks.length]? = some k := by simp
          have z : RelQ K H (rn n (ks ++ [k]) ρ) (n + (ks ++ [k]).length) (.loc (n + ks.length)) (.ref (rn n (ks ++ [k]) ρ (n + ks.length))) := .loc (by simp)
          rw [rn_ge hj] at z; exact z
  | .exc c, x, ks, r, hk => by
    cases r with | exc r =>
    simp only [gcV]
    exact ⟨⟨[], by simp⟩, hk, .exc r⟩
  | .mt vs, x, ks, r, hk => by
    cases r with | mt a b =>
    simp only [gcV]
    obtain ⟨h1, h2, h3⟩ := gcVs_ok vs _ ks b hk
    exact ⟨h1, h2, .mt a h3⟩
theorem gcVs_ok {n L : Nat} : ∀ (vs : List PV) (xs : List V) (ks : List Nat), RelQs K H ρ L vs xs → Kept n L ks →
    (∃ more, (gcVs n vs ks).2 = ks ++ more) ∧ Kept n L (gcVs n vs ks).2 ∧ RelQs K H (rn n (gcVs n vs ks).2 ρ) (n + (gcVs n vs ks).2.length) (gcVs n vs ks).1 xs
  | [], xs, ks, r, hk => by
    cases r
    simp only [gcVs]
    exact ⟨⟨[], by simp⟩, hk, .nil⟩
  | v :: vs, xs, ks, r, hk => by
    cases r with | cons r1 r2 =>
    simp only [gcVs]
    obtain ⟨⟨m1, e1⟩, k1, q1⟩ := gcV_ok v _ ks r1 hk
    obtain ⟨⟨m2, e2⟩, k2, q2⟩ := gcVs_ok vs _ (gcV n v ks).2 r2 k1
    refine ⟨⟨m1 ++ m2, by rw [e2, e1, List.append_assoc]⟩, k2, .cons ?_ q2⟩
    rw [e2]
    exact q1.mono (Keep.refl _) (by rw [List.length_append]; omega) fun i hi => rn_more hi
end
theorem filterMap_get {S : Sto} : ∀ {ks : List Nat}, (∀ k ∈ ks, k < S.length) → (ks.filterMap fun k => S[k]?).length = ks.length ∧ ∀ (j k : Nat), ks[j]? = some k → (ks.filterMap fun k => S[k]?)[j]? = S[k]?
  | [], _ => ⟨rfl, fun j k h => by simp at h⟩
  | k :: ks, h => by
    obtain ⟨l, g⟩ := filterMap_get (ks := ks) fun a ha => h a (List.mem_cons_of_mem _ ha)
    have hk := h k List.mem_cons_self
    rw [List.filterMap_cons, List.getElem?_eq_getElem hk]
    dsimp only
    refine ⟨by simp [l], fun j a e => ?_⟩
    cases j with
    | zero => simp at e; subst e; rw [List.getElem?_cons_zero, List.getElem?_eq_getElem hk]
    | succ j => rw [List.getElem?_cons_succ] at e ⊢; exact g j a e
/-- the store behind a call -/
theorem gc_ok {CV : Nat → Value} {ρ0 : Nat → Addr} {S0 S : Sto} {H0 : Hp} {Q : VK} {v : PV} {x : V} {W : WX} {σ : L2.St} (e : Ext ρ0 S0 H0 ρ S H) (sim : Sim K ρ S H) (r : RelQ K H ρ S.length v x)
    (g : G K W CV σ ρ0 S0 H0 (gc S0.length v S) (QV K Q)) : Q x H := by
  unfold gc at g
  dsimp only at g
  have hk0 : Kept S0.length S.length [] := ⟨fun k h => by simp at h, List.nodup_nil⟩
  obtain ⟨_, hk, hr⟩ := gcV_ok (n := S0.length) v x [] r hk0
  obtain ⟨l, gt⟩ := filterMap_get (S := S) fun k h => (hk.in' k h).2
  have tl : (S.take S0.length).length = S0.length := by rw [List.length_take]; have := e.le; omega
  refine g (rn S0.length (gcV S0.length v []).2 ρ) H ⟨by rw [List.length_append, tl]; omega, fun i hi => (rn_lt hi).trans (e.same i hi), e.keep⟩ ⟨fun i c hc => ?_, fun i j hi hj h => ?_⟩ x ?_
  · by_cases hi : i < S0.length
    · rw [List.getElem?_append_left (by rw [tl]; exact hi), List.getElem?_take, if_pos hi] at hc
      rw [rn_lt hi]
      exact sim.cell i c hc
    · rw [List.getElem?_append_right (by rw [tl]; omega), tl] at hc
      have hlt := getE_lt hc
      rw [l] at hlt
      have hj := List.getElem?_eq_getElem hlt
      rw [gt _ _ hj] at hc
      have e2 : i = S0.length + (i - S0.length) := by omega
      rw [e2, rn_ge hj]
      exact sim.cell _ c hc
  · rw [List.length_append, tl, l] at hi hj
    have val : ∀ i, i < S0.length + (gcV S0.length v []).2.length → ∃ k, k < S.length ∧ rn S0.length (gcV S0.length v []).2 ρ i = ρ k ∧ ((i < S0.length ∧ k = i) ∨ (S0.length ≤ i ∧ (gcV S0.length v []).2[i - S0.length]? = some k)) := by
      intro i hi
      by_cases c : i < S0.length
      · exact ⟨i, Nat.lt_of_lt_of_le c e.le, rn_lt c, .inl ⟨c, rfl⟩⟩
      · have hlt : i - S0.length < (gcV S0.length v []).2.length := by omega
        have hj := List.getElem?_eq_getElem hlt
        have e2 : i = S0.length + (i - S0.length) := by omega
        exact ⟨_, (hk.in' _ (List.getElem_mem hlt)).2, (congrArg (rn S0.length (gcV S0.length v []).2 ρ) e2).trans (rn_ge hj), .inr ⟨by omega, hj⟩⟩
    obtain ⟨k1, l1, e1, c1⟩ := val i hi
    obtain ⟨k2, l2, e2, c2⟩ := val j hj
    rw [e1, e2] at h
    have hkk := sim.inj k1 k2 l1 l2 h
    subst hkk
    rcases c1 with ⟨a, b⟩ | ⟨a, b⟩
    · rcases c2 with ⟨c, d⟩ | ⟨c, d⟩
      · rw [← b, d]
      · have := (hk.in' _ (List.mem_of_getElem? d)).1
        omega
    · rcases c2 with ⟨c, d⟩ | ⟨c, d⟩
      · have := (hk.in' _ (List.mem_of_getElem? b)).1
        omega
      · obtain ⟨p1, q1⟩ := List.getElem?_eq_some_iff.mp b
        obtain ⟨p2, q2⟩ := List.getElem?_eq_some_iff.mp d
        have := (List.getElem_inj hk.nd).mp (q1.trans q2.symm)
        omega
  · rw [List.length_append, tl, l]; exact hr
theorem take_sim {ρ0 : Nat → Addr} {S0 S : Sto} {H0 : Hp} (e : Ext ρ0 S0 H0 ρ S H) (sim : Sim K ρ S H) : Sim K ρ (S.take S0.length) H ∧ Ext ρ0 S0 H0 ρ (S.take S0.length) H := by
  have tl : (S.take S0.length).length = S0.length := by rw [List.length_take]; have := e.le; omega
  refine ⟨⟨fun i c hc => ?_, fun i j hi hj h => sim.inj i j (by rw [tl] at hi; have := e.le; omega) (by rw [tl] at hj; have := e.le; omega) h⟩, ⟨by rw [tl]; exact Nat.le_refl _, e.same, e.keep⟩⟩
  have hi := getE_lt hc
  rw [tl] at hi
  rw [List.getElem?_take, if_pos hi] at hc
  exact sim.cell i c hc
theorem relQs_envOk {N : List Str} {np : Nat} {S : Sto} {ps : List PV} {vs : List V} (r : RelQs K H ρ S.length ps vs) (hl : ps.length = np) :
    EnvOk K H ρ S.length (ps.map some ++ List.replicate (N.length - np) none) (L2.start N vs) := by
  have hv := r.length
  refine ⟨?_, fun i v h => ?_⟩
  · unfold L2.start
    simp only [List.length_append, List.length_map, List.length_replicate]
    rw [← hv, hl]
  · by_cases hi : i < ps.length
    · rw [List.getElem?_append_left (by simpa using hi), List.getElem?_map] at h
      cases q : ps[i]? with
      | none => rw [q] at h; cases h
      | some u =>
        rw [q] at h; cases h
        obtain ⟨x, hx, rx⟩ := r.get q
        refine ⟨x, ?_, rx⟩
        unfold L2.start
        rw [List.getElem?_append_left (by rw [List.length_map, ← hv]; exact hi), List.getElem?_map, hx]; rfl
    · rw [List.getElem?_append_right (by simp; omega), List.getElem?_replicate] at h
      split at h <;> cases h
end
/-- the names that all defs see -/
structure GL where
  fn : Str → Option Nat
  cst : Str → Option P
  cls : Str → Option Nat
  fre : Str → Bool
  exm : Nat → Nat → Option Bool
  ncl : Nat
  hfn : Nat → Bool
  isx : Str → Nat → Option Bool
def GL.at (g : GL) (N : List Str) : TC := ⟨N, g.fn, g.cst, g.cls, g.fre, false, g.exm, g.ncl, g.hfn, g.isx⟩
/-- a def: its names, the parameters first, its body -/
structure DefOk (g : GL) (T : Nat → Option FD) (f : Nat) (N ps : List Str) (body : List Stmt) (sc : Scope) : Prop where
  sco : FnScope N ps sc
  tab : ∃ m, T f = some ⟨ps.length, N.length, m⟩ ∧ TrSs (g.at N) sc body m
  tabH : g.hfn f = true → ∃ m, T f = some ⟨ps.length, N.length, m⟩ ∧ TrSs (g.at N).heat sc body m
section
variable {g : GL} {CV : Nat → Value} {T : Nat → Option FD} {P : Program} {w : World} {K : PySem.W.Frag} {mg : Str → Option Value} {base : Heap}
structure Facts (g : GL) (CV : Nat → Value) (K : PySem.W.Frag) (mg : Str → Option Value) : Prop where
  fre : ∀ x, g.fre x = true → mg x = none
  cst : ∀ x k, g.cst x = some k → ∃ v u, mg x = some u ∧ RelV v u ∧ ∀ H, RelP K H k v
  cls : ∀ x c, g.cls x = some c → ∃ a, mg x = some (.ref a) ∧ CV c = .ref a ∧ PySem.W.excIn K a [.type "ValueError", .type "Exception", .type "BaseException", .type "object"] "ValueError.__new__" = true ∧ PySem.W.keepIn K (.ref a) = true ∧
    PySem.W.subIn K (.ref a) (.type "BaseException") = some true ∧ PySem.W.typeIn K (.ref a) = some (.type "type")
  exm : ∀ c k b, g.exm c k = some b → PySem.W.exmOne K (CV c) (CV k) = some b
  isx : ∀ x c b, g.isx x c = some b → IsxOk K CV mg x c b
theorem spE_len [ξ : Xc] {n : Nat} {f : Nat} {N ps : List Str} {m : Sms} (ht : T f = some ⟨ps.length, N.length, m⟩) : ∀ vs H Q E, spE K CV (callE T (n + 1)) f vs H Q E → vs.length = ps.length := by
  intro vs H Q E ⟨ρ, S, qs, sim, r, h⟩
  unfold callE at h
  rw [ht] at h
  dsimp only at h
  split at h
  · rename_i hl
    rw [← r.length]; exact hl
  · exact h.elim
/-- the body's wish from what is said of the call -/
theorem body_sp [ξ : Xc] {n f : Nat} {N ps : List Str} {m : Sms} {vs : List V} {H : Hp} {Q : VK} {E : XK} (ht : T f = some ⟨ps.length, N.length, m⟩) (h : spE K CV (callE T (n + 1)) f vs H Q E) :
    tS K (fun c d _ H => E c d H) CV (exss (callE T n) m) { nx := fun _ H' => Q .non H', rt := Q } (L2.start N vs) H := by
  obtain ⟨ρ, S, qs, sim, r, hg⟩ := h
  unfold callE at hg
  rw [ht] at hg
  dsimp only at hg
  split at hg
  · rename_i hl
    refine ⟨_, ρ, S, relQs_envOk (N := N) r hl, sim, ?_⟩
    cases hq : exss (callE T n) m (qs.map some ++ List.replicate (N.length - ps.length) none) S with
    | no => rw [hq] at hg; exact hg
    | ct en S' => rw [hq] at hg; exact hg.elim
    | nx en S' =>
      rw [hq] at hg
      intro ρ' H' σ' e s' _
      obtain ⟨s2, e2⟩ := take_sim e s'
      exact hg ρ' H' e2 s2 .non (.p .non)
    | ex c en S' =>
      rw [hq] at hg
      intro ρ' H' σ' e s' _
      obtain ⟨s2, e2⟩ := take_sim e s'
      exact hg ρ' H' e2 s2
    | rt v S' =>
      rw [hq] at hg
      intro ρ' H' x e s' rx
      exact gc_ok e s' rx hg
  · exact hg.elim
/-- what all defs keep, at a level -/
structure AllAt (g : GL) (CV : Nat → Value) (T : Nat → Option FD) (P : Program) (w : World) (K : PySem.W.Frag) (mg : Str → Option Value) (base : Heap) (n : Nat) : Prop where
  cold : ∀ y i, g.fn y = some i → ∃ b fd ps, mg y = some (.ref b) ∧ PySem.W.keepIn K (.ref b) = true ∧ Binds K fd ps [] ∧ FnOk P w K mg base (L2N.CX P w) n b fd ps (@spE xc0 K CV (callE T n) i)
  warm : ∀ y i, g.fn y = some i → g.hfn i = true → ∃ b fd ps, mg y = some (.ref b) ∧ PySem.W.keepIn K (.ref b) = true ∧ Binds K fd ps [] ∧ FnX P w K mg base (L2N.CX P w) n b fd ps fun p => @spE (xcP CV p) K CV (callE T n) i
/-- ONE DEF, a level up -/
theorem def_ok {n f : Nat} {x qual : Str} {params : Arguments} {body : List Stmt} {sc : Scope} {kws : List (Str × V)} {a : Addr} {fd : FuncData} {N ps : List Str} (FA : Facts g CV K mg)
    (F : FunD K x qual params body sc [] kws a fd) (D : DefOk g T f N ps body sc) (ih : AllAt g CV T P w K mg base n) :
    FnOk P w K mg base (L2N.CX P w) (n + 1) a fd ps (@spE xc0 K CV (callE T (n + 1)) f) := by
  letI : Xc := xc0
  obtain ⟨m, ht, htr⟩ := D.tab
  refine F.ok D.sco (spE_len (ξ := xc0) ht) (fun cdv A outer s H vs Q E hr hsp => ?_)
  have O : @OkS xc0 (g.at N) CV (callE T n) n sc (cxOf (L2N.CX P w) P w K mg base N qual sc a cdv A outer s H E) (fun c d _ H => E c d H) := by
    refine @OkS.mk xc0 _ _ _ _ _ _ _ ?_ (fun _ => L2.passes_of rfl) rfl rfl FA.exm FA.cls
    exact @Ok.mk xc0 _ _ _ _ _ _ _ rfl D.sco.nd (fun _ => rfl) (fun _ => hr) hr.units (L2N.takes_of rfl rfl rfl rfl) (fun x h => lookup_cases h) (fun x h => lookup_gl h) (fun x h => ⟨lookup_loc h, .inl rfl⟩) (fun x h => h) (fun x h => h) (fun x h => h)
      FA.fre FA.cst ih.cold (fun _ _ _ h => h) (fun h => by cases h) (fun _ => ⟨hr.dp, hr.un⟩) ih.warm FA.isx
  exact ⟨_, sndSs (ξ := xc0) htr O, body_sp (ξ := xc0) ht hsp⟩
/-- A DEF CALLED WHERE SOMETHING IS HANDLED: its body walked in that context -/
theorem fnX_of {CX : CXT} {k : Nat} {x qual : Str} {params : Arguments} {body : List Stmt} {sc : Scope} {kws : List (Str × V)} {a : Addr} {fd : FuncData} {N ps : List Str} {sp : Addr × Obj → Sp} (F : FunD K x qual params body sc [] kws a fd) (S : FnScope N ps sc)
    (len : ∀ p vs H Q E, sp p vs H Q E → vs.length = ps.length)
    (walk : ∀ (cv : Value) (A : Around) (up : List Env) (s : Shared) (H : Hp) (vs : List V) (Q : VK) (E : XK) (p : Addr × Obj), L2H.Hot1 A p → L2H.RoomH k (A.deeper (envOfC qual sc s.heap.objs.size a cv)) → sp p vs H Q E →
      ∃ t, PSs (L2H.cxH CX P w K mg base N qual sc a cv A up s H E p) body t ∧ t { nx := fun _ H1 => Q .non H1, rt := Q } (L2.start N vs) H) :
    FnX P w K mg base CX (k + 1) a fd ps sp := by
  obtain ⟨oc, od, dV, kV, doc, pm, an, cv, ct, osl, rfl, lk, rec, _⟩ := F.ex
  refine ⟨len, fun p A up s H args us vs Q E room hot pin e0 bnd rv hsp => ?_⟩
  have grow := fun b o (z : base.get? b = some o) => (e0.bs b o z).1
  have kin := e0.mod.kin.keeps grow
  refine codeAny_call_function (room.depth) (kin _ _ lk) rfl S.co S.gen rfl (PySem.W.codeRec_of kin rec) (bnd _ _ _ _ ?_)
  refine wpAny_newFunctionEnv_cells S.kind (fun y hy => ?_) fun env he s1 inb => ?_
  · have hp : y.1 ∈ ps := (List.of_mem_zip (a := y.1) (b := y.2) hy).1
    cases S.par y.1 hp with
    | inl q => exact .inl q
    | inr q => exact .inr ⟨q, PySem.W.cellsFrom_some _ _ _ (.inl q)⟩
  · subst he
    refine ⟨(e0.mod.nolimit.keeps grow).keeps inb.toInCall.keep, codeAny_func ?_⟩
    obtain ⟨t, tb, go⟩ := walk cv A up s H vs Q E p hot (room.deeper _) hsp
    refine wpAny_mono (tb.run [] s1 (L2.start N vs) H _ (L2H.inv_startH S pin e0 (len _ _ _ _ _ hsp) rv inb) go) (fun fl s2 done => ?_) fun _ _ z => z
    match fl, done with
    | .ret u, done =>
      obtain ⟨v, σ2, H2, J, r, q⟩ := done
      exact ⟨v, H2, J.os, J.bare, J.base, J.hok, r, q⟩
    | .next, done =>
      obtain ⟨σ2, H2, J, q⟩ := done
      exact ⟨V.non, H2, J.os, J.bare, J.base, J.hok, rfl, q⟩
    | .brk, done =>
      obtain ⟨_, _, _, z⟩ := done
      exact z.elim
    | .cont, done =>
      obtain ⟨_, _, _, z⟩ := done
      exact z.elim
theorem def_okH {n f : Nat} {x qual : Str} {params : Arguments} {body : List Stmt} {sc : Scope} {kws : List (Str × V)} {a : Addr} {fd : FuncData} {N ps : List Str} (FA : Facts g CV K mg)
    (F : FunD K x qual params body sc [] kws a fd) (D : DefOk g T f N ps body sc) (hf : g.hfn f = true) (ih : AllAt g CV T P w K mg base n) :
    FnX P w K mg base (L2N.CX P w) (n + 1) a fd ps fun p => @spE (xcP CV p) K CV (callE T (n + 1)) f := by
  letI : Xc := xc0
  obtain ⟨m, ht, htr⟩ := D.tabH hf
  refine fnX_of F D.sco (fun p => spE_len (ξ := xcP CV p) ht) (fun cdv A outer s H vs Q E p hot hr hsp => ?_)
  have O : @OkS (xcP CV p) (g.at N).heat CV (callE T n) n sc (L2H.cxH (L2N.CX P w) P w K mg base N qual sc a cdv A outer s H E p) (fun c d _ H => E c d H) := by
    refine @OkS.mk (xcP CV p) _ _ _ _ _ _ _ ?_ (fun h => by cases h) rfl rfl FA.exm FA.cls
    exact @Ok.mk (xcP CV p) _ _ _ _ _ _ _ rfl D.sco.nd (fun h => by cases h) (fun h => by cases h) (by have := hr.un; show A.units + 3 + 64 < _; have h2 : A.units + 3 + 16 * n + 200 < cLine := this; omega) (L2N.takes_of rfl rfl rfl rfl) (fun x h => lookup_cases h) (fun x h => lookup_gl h) (fun x h => ⟨lookup_loc h, .inl rfl⟩) (fun x h => h) (fun x h => h) (fun x h => h)
      FA.fre FA.cst ih.cold (fun h => by cases h) (fun _ => ⟨p, hot, List.mem_cons_self, rfl⟩) (fun _ => hr) ih.warm FA.isx
  exact ⟨_, sndSs (ξ := xcP CV p) htr O, body_sp (ξ := xcP CV p) ht hsp⟩
theorem zero_ok {f : Nat} {a : Addr} {fd : FuncData} {ps : List Str} {CX : CXT} : FnOk P w K mg base CX 0 a fd ps (@spE xc0 K CV (callE T 0) f) := by
  have no : ∀ vs H Q E, ¬ @spE xc0 K CV (callE T 0) f vs H Q E := fun vs H Q E ⟨ρ, S, qs, sim, r, h⟩ => h
  exact ⟨fun vs H Q E h => absurd h (no vs H Q E), fun A outer s H args us vs Q E _ _ _ _ h => absurd h (no vs H Q E)⟩
theorem zero_okH {f : Nat} {a : Addr} {fd : FuncData} {ps : List Str} {CX : CXT} : FnX P w K mg base CX 0 a fd ps fun p => @spE (xcP CV p) K CV (callE T 0) f := by
  have no : ∀ p vs H Q E, ¬ @spE (xcP CV p) K CV (callE T 0) f vs H Q E := fun p vs H Q E ⟨ρ, S, qs, sim, r, h⟩ => h
  exact ⟨fun p vs H Q E h => absurd h (no p vs H Q E), fun p A outer s H us' us vs Q E _ _ _ _ _ _ h => absurd h (no p vs H Q E)⟩
/-- ALL DEFS, at every level -/
theorem all_ok (FA : Facts g CV K mg)
    (D : ∀ y i, g.fn y = some i → ∃ (a : Addr) (fd : FuncData) (qual : Str) (params : Arguments) (body : List Stmt) (sc : Scope) (N ps : List Str), mg y = some (.ref a) ∧ FunD K y qual params body sc [] [] a fd ∧ Binds K fd ps [] ∧ DefOk g T i N ps body sc) :
    ∀ n, AllAt g CV T P w K mg base n
  | 0 => by
    refine ⟨fun y i h => ?_, fun y i h _ => ?_⟩
    · obtain ⟨a, fd, qual, params, body, sc, N, ps, hm, F, hb, _⟩ := D y i h
      exact ⟨a, fd, ps, hm, F.kp, hb, zero_ok⟩
    · obtain ⟨a, fd, qual, params, body, sc, N, ps, hm, F, hb, _⟩ := D y i h
      exact ⟨a, fd, ps, hm, F.kp, hb, zero_okH⟩
  | n + 1 => by
    refine ⟨fun y i h => ?_, fun y i h hf => ?_⟩
    · obtain ⟨a, fd, qual, params, body, sc, N, ps, hm, F, hb, d⟩ := D y i h
      exact ⟨a, fd, ps, hm, F.kp, hb, def_ok FA F d (all_ok FA D n)⟩
    · obtain ⟨a, fd, qual, params, body, sc, N, ps, hm, F, hb, d⟩ := D y i h
      exact ⟨a, fd, ps, hm, F.kp, hb, def_okH FA F d hf (all_ok FA D n)⟩
end
end Kp

set_option Elab.async false
set_option linter.all false
set_option maxRecDepth 100000
set_option maxHeartbeats 8000000
set_option autoImplicit false
/-! K12: the text read into the small language. -/
namespace Kp
open PySem PySem.Spec PyProof.Rows L2
abbrev OE (C : TC) (sc : Scope) (e : Expr) : Type := Option {m : Ex // TrE C sc e m}
def bopI : (o : Operator) → Option {b : Bop // opOf b = o}
  | .Add => some ⟨.add, rfl⟩ | .Sub => some ⟨.sub, rfl⟩ | .Mult => some ⟨.mul, rfl⟩ | .FloorDiv => some ⟨.fdiv, rfl⟩ | .Mod => some ⟨.mod, rfl⟩ | .Pow => some ⟨.pow, rfl⟩
  | _ => none
def copI : (o : CmpOp) → {b : Cop // copOf b = o}
  | .Eq => ⟨.eq, rfl⟩ | .NotEq => ⟨.ne, rfl⟩ | .Lt => ⟨.lt, rfl⟩ | .LtE => ⟨.le, rfl⟩ | .Gt => ⟨.gt, rfl⟩ | .GtE => ⟨.ge, rfl⟩ | .Is => ⟨.is, rfl⟩ | .IsNot => ⟨.isn, rfl⟩ | .In => ⟨.inn, rfl⟩ | .NotIn => ⟨.nin, rfl⟩
def mtI (a : Str) : List Mt → Option {b : Mt // mtNm b = a ∧ mtArg b < 20}
  | [] => none
  | b :: r => if h : mtNm b = a ∧ mtArg b < 20 then some ⟨b, h⟩ else mtI a r
def tyI (a : Str) : List Ty → Option {t : Ty // (tyId t : Str) = a}
  | [] => none
  | b :: r => if h : (tyId b : Str) = a then some ⟨b, h⟩ else tyI a r
def allTy : List Ty := [.tup, .lst, .str, .int, .bool]
def isNm (b : Option String) (f : Str) : Bool := match b with
  | some id => decide ((id : Str) = f)
  | none => false
theorem isNm_ok {b : Option String} {f : Str} (h : isNm b f = true) : ∃ id : String, b = some id ∧ (id : Str) = f := by
  cases b with
  | none => cases h
  | some id => exact ⟨id, rfl, of_decide_eq_true h⟩
def biI (f : Str) (n : Nat) : List Bi → Option {b : Bi // (∃ id : String, biId b = some id ∧ (id : Str) = f) ∧ arB b n = true}
  | [] => none
  | b :: r => if h : isNm (biId b) f = true ∧ arB b n = true then some ⟨b, isNm_ok h.1, h.2⟩ else biI f n r
def btI (f : Str) : List Bi → Option {b : Bi // ∃ id : String, biTy b = some id ∧ (id : Str) = f}
  | [] => none
  | b :: r => if h : isNm (biTy b) f = true then some ⟨b, isNm_ok h⟩ else btI f r
def nmI (C : TC) (x : Str) : Option {i : Nat // C.N[i]? = some x} := if h : C.N[C.N.idxOf x]? = some x then some ⟨_, h⟩ else none
section
variable (C : TC) (r : ∀ (sc : Scope) (e : Expr), OE C sc e)
def trEs (sc : Scope) : (es : List Expr) → Option {ms : Exs // TrEs C sc es ms}
  | [] => some ⟨.nil, .nil⟩
  | e :: es => match r sc e, trEs sc es with
    | some ⟨m, h⟩, some ⟨ms, hs⟩ => some ⟨.cons m ms, .cons h hs⟩
    | _, _ => none
def trEs1 (sc : Scope) (e : Expr) (es : List Expr) : Option {p : Ex × Exs // TrEs C sc (e :: es) (.cons p.1 p.2)} := match r sc e, trEs C r sc es with
  | some ⟨m, h⟩, some ⟨ms, hs⟩ => some ⟨(m, ms), .cons h hs⟩
  | _, _ => none
def trO (sc : Scope) : (e : Option Expr) → Option {m : Oe // TrO C sc e m}
  | none => some ⟨.non, .non⟩
  | some e => match r sc e with
    | some ⟨m, h⟩ => some ⟨.one m, .one h⟩
    | none => none
def trC (sc : Scope) : (e : List Expr) → Option {m : Oe // TrC C sc e m}
  | [] => some ⟨.non, .non⟩
  | [e] => match r sc e with
    | some ⟨m, h⟩ => some ⟨.one m, .one h⟩
    | none => none
  | _ => none
def trD (sc : Scope) : (ks : List (Option Expr)) → (es : List Expr) → Option {p : List Str × Exs // TrD C sc ks es p.1 p.2}
  | [], [] => some ⟨([], .nil), .nil⟩
  | some (.Constant (.str k) _ _) :: ks, e :: es => match r sc e, trD sc ks es with
    | some ⟨m, h⟩, some ⟨ms, hs⟩ => some ⟨(k :: ms.1, .cons m ms.2), .cons h hs⟩
    | _, _ => none
  | _, _ => none
def trBA (sc : Scope) : (es : List Expr) → Option {m : Ex // TrB C sc .And es m}
  | [] => none
  | [a] => match r sc a with
    | some ⟨m, h⟩ => some ⟨m, .one h⟩
    | none => none
  | a :: b :: q => match r sc a, trBA sc (b :: q) with
    | some ⟨m, h⟩, some ⟨ms, hs⟩ => some ⟨.and' m ms, .and' h hs⟩
    | _, _ => none
def trBO (sc : Scope) : (es : List Expr) → Option {m : Ex // TrB C sc .Or es m}
  | [] => none
  | [a] => match r sc a with
    | some ⟨m, h⟩ => some ⟨m, .one h⟩
    | none => none
  | a :: b :: q => match r sc a, trBO sc (b :: q) with
    | some ⟨m, h⟩, some ⟨ms, hs⟩ => some ⟨.or' m ms, .or' h hs⟩
    | _, _ => none
def trIv (sc : Scope) (tg : Expr) (e : Expr) : Option {m : Ix // TrI C sc tg e m} := match r sc e with
  | some ⟨m, h⟩ => if hs : isSet e = false then some ⟨.val m, .val h hs⟩ else none
  | none => none
def trI (sc : Scope) (tg : Expr) : (e : Expr) → Option {m : Ix // TrI C sc tg e m}
  | .Call (.Name f p) [a] [] pos => if hf : f = ("range" : Str) ∧ glB sc ("range" : Str) = true ∧ C.fre ("range" : Str) = true then
      (match r sc a with
      | some ⟨m, h⟩ => some ⟨.rng1 m, by obtain ⟨rfl, h1, h2⟩ := hf; exact .rng1 h1 h2 h⟩
      | none => none)
    else if hf : f = ("reversed" : Str) ∧ glB sc ("reversed" : Str) = true ∧ C.fre ("reversed" : Str) = true then
      (match a with
      | .Call (.Name f2 p2) [b] [] pos2 => if hg : f2 = ("range" : Str) ∧ glB sc ("range" : Str) = true ∧ C.fre ("range" : Str) = true then
          (match r sc b with
          | some ⟨m, h⟩ => some ⟨.revR m, by obtain ⟨rfl, h1, h2⟩ := hf; obtain ⟨rfl, h3, h4⟩ := hg; exact .revR h3 h4 h1 h2 h⟩
          | none => none)
        else (match r sc (.Call (.Name f2 p2) [b] [] pos2) with
          | some ⟨m, h⟩ => some ⟨.revL m, by obtain ⟨rfl, h1, h2⟩ := hf; exact .revL h1 h2 h⟩
          | none => none)
      | a => (match r sc a with
          | some ⟨m, h⟩ => some ⟨.revL m, by obtain ⟨rfl, h1, h2⟩ := hf; exact .revL h1 h2 h⟩
          | none => none))
    else trIv C r sc tg (.Call (.Name f p) [a] [] pos)
  | .Call (.Name f p) [a, b] [] pos => if hf : f = ("range" : Str) ∧ glB sc ("range" : Str) = true ∧ C.fre ("range" : Str) = true then
      (match r sc a, r sc b with
      | some ⟨m, h⟩, some ⟨m', h'⟩ => some ⟨.rng2 m m', by obtain ⟨rfl, h1, h2⟩ := hf; exact .rng2 h1 h2 h h'⟩
      | _, _ => none)
    else if hf : f = ("zip" : Str) ∧ glB sc ("zip" : Str) = true ∧ C.fre ("zip" : Str) = true then
      (match tg, r sc a, r sc b with
      | .Tuple elts kk tpos, some ⟨m, h⟩, some ⟨m', h'⟩ => some ⟨.zip m m', by obtain ⟨rfl, h1, h2⟩ := hf; exact .zip h1 h2 h h'⟩
      | _, _, _ => none)
    else trIv C r sc tg (.Call (.Name f p) [a, b] [] pos)
  | e => trIv C r sc tg e
def trNm (sc : Scope) (x : Str) (pos : Pos) : OE C sc (.Name x pos) :=
  if hd : dbg x = true then
    if hv : visB sc x = true then
      (match nmI C x with
      | some ⟨i, h⟩ => some ⟨.v i, .v h hv hd⟩
      | none => none)
    else if hg : glB sc x = true then
      (match hk : C.cst x with
      | some k => some ⟨.c k, .glob hg hd hk⟩
      | none => none)
    else none
  else none
def trNs (sc : Scope) : (es : List Expr) → Option {xs : List Str // TrNs sc es xs}
  | [] => some ⟨[], .nil⟩
  | .Name x _ :: es => if h : glB sc x = true ∧ dbg x = true then
      (match trNs sc es with
      | some ⟨xs, hs⟩ => some ⟨x :: xs, .cons h.1 h.2 hs⟩
      | none => none)
    else none
  | _ :: _ => none
def trIs (sc : Scope) (f : Str) (p : Pos) (hg : glB sc f = true) (hf : C.fre f = true) (a b : Expr) (pos : Pos) : OE C sc (.Call (.Name f p) [a, b] [] pos) :=
  if hi : f = ("isinstance" : Str) then
    match b with
    | .Name t p2 => if h : glB sc t = true ∧ C.fre t = true then
        (match tyI t allTy, r sc a with
        | some ⟨ty, ht⟩, some ⟨m, h3⟩ => some ⟨.isi m ty, by subst hi; subst ht; exact .isi hg hf h.1 h.2 h3⟩
        | none, some ⟨m, h3⟩ => if hd : dbg t = true then some ⟨.isx m (yesX C [t]) (noX C [t]), by subst hi; exact .isx hg hf h3 h.1 hd⟩ else none
        | _, _ => none)
      else if h : glB sc t = true ∧ dbg t = true then
        (match r sc a with
        | some ⟨m, h3⟩ => some ⟨.isx m (yesX C [t]) (noX C [t]), by subst hi; exact .isx hg hf h3 h.1 h.2⟩
        | none => none)
      else none
    | .Tuple ts k p2 => (match trNs sc ts, r sc a with
        | some ⟨xs, h2⟩, some ⟨m, h3⟩ => if h : ts.length ≤ 1000 ∧ xs.isEmpty = false then some ⟨.isx m (yesX C xs) (noX C xs), by subst hi; exact .isxT hg hf h3 h2 h.1 h.2⟩ else none
        | _, _ => none)
    | _ => none
  else none
def trCall (sc : Scope) (f : Str) (p : Pos) (e : Expr) (es : List Expr) (pos : Pos) : OE C sc (.Call (.Name f p) (e :: es) [] pos) :=
  if hg : glB sc f = true then
    match hk : C.fn f with
    | some i => if hd : dbg f = true ∧ (C.hot && !C.hfn i) = false then (match trEs1 C r sc e es with
      | some ⟨ms, h⟩ => some ⟨.call i (.cons ms.1 ms.2), .call hd.2 hg hd.1 hk h⟩
      | none => none) else none
    | none => if hf : C.fre f = true then
        (match biI f (e :: es).length [.len, .sum, .all, .max1, .max2, .min2, .sorted] with
        | some ⟨b, hb⟩ => if hh : (C.hot && !hotBi b) = false then (match trEs1 C r sc e es with
          | some ⟨ms, h⟩ => some ⟨.bi b (.cons ms.1 ms.2), by obtain ⟨⟨id, h1, rfl⟩, h2⟩ := hb; exact .bi hh h1 h2 hg hf h⟩
          | none => none) else none
        | none => (match btI f [.tup, .lst, .int, .str, .dict] with
          | some ⟨b, hb⟩ => if hh : (C.hot && !hotBi b) = false then (match trEs1 C r sc e es with
            | some ⟨ms, h⟩ => some ⟨.bi b (.cons ms.1 ms.2), by obtain ⟨id, h1, rfl⟩ := hb; exact .bt hh h1 hg hf h⟩
            | none => none) else none
          | none => (match es with
            | [b] => trIs C r sc f p hg hf e b pos
            | _ => none)))
      else none
  else none
def trCall0 (sc : Scope) (f : Str) (p pos : Pos) : OE C sc (.Call (.Name f p) [] [] pos) :=
  if h : glB sc f = true ∧ dbg f = true then
    (match hk : C.fn f with
    | some i => if hh : (C.hot && !C.hfn i) = false then some ⟨.call i .nil, .call0 hh h.1 h.2 hk⟩ else none
    | none => none)
  else none
def trMth (sc : Scope) (o : Expr) (a : Str) (apos : Pos) (es : List Expr) (cpos : Pos) : OE C sc (.Call (.Attribute o a apos) es [] cpos) :=
  match mtI a [.append, .get2, .pop0, .reverse, .join, .index, .count, .insert] with
  | some ⟨mt, hm⟩ => if h : es.length = mtArg mt ∧ baseB o = true ∧ (apos.endLine == cpos.line) = true then
      (match r sc o, trEs C r sc es with
      | some ⟨m, h1⟩, some ⟨ms, h2⟩ => some ⟨.mth mt m ms, by obtain ⟨rfl, hm2⟩ := hm; exact .mth h1 h2 h.1 hm2 h.2.1 h.2.2⟩
      | _, _ => none)
    else none
  | none => none
def trSub (sc : Scope) (a b : Expr) (pos : Pos) : OE C sc (.Subscript a b pos) := match r sc a with
  | none => none
  | some ⟨x, hx⟩ => match b with
    | .Slice none none (some (.UnaryOp .USub (.Constant (.int 1) k p1) p2)) p3 => some ⟨.rev x, .rev hx⟩
    | .Slice lo hi none p2 => (match trO C r sc lo, trO C r sc hi with
      | some ⟨l, h1⟩, some ⟨h, h2⟩ => some ⟨.sl x l h, .sl hx h1 h2⟩
      | _, _ => none)
    | b => (match r sc b with
      | some ⟨y, hy⟩ => if hs : isSl b = false then some ⟨.ix x y, .ix hx hy hs⟩ else none
      | none => none)
def trComp (sc sc' : Scope) (elt : Expr) (x : Str) (tp : Pos) (iter : Expr) (ifs : List Expr) (pos : Pos) : OE C sc (.ListComp elt [⟨.Name x tp, iter, ifs, 0⟩] sc' pos) :=
  match nmI C x with
  | none => none
  | some ⟨i, hi⟩ => if h : C.hot = false ∧ blkC C.N sc sc' [(x, i)] = true ∧ locB sc' x = true then
      (match trI C r sc (.Name x tp) iter, trC C r sc' ifs, r sc' elt with
      | some ⟨it, h1⟩, some ⟨t, h2⟩, some ⟨e, h3⟩ => some ⟨.comp i it t e, .comp h.1 h1 h.2.1 h.2.2 hi h2 h3⟩
      | _, _, _ => none)
    else none
def trMax (sc : Scope) (f : Str) (p : Pos) (a : Expr) (kw : Str) (d : Expr) (kp pos : Pos) : OE C sc (.Call (.Name f p) [a] [⟨some kw, d, kp⟩] pos) :=
  if h : (C.hot = false ∧ f = ("max" : Str) ∧ kw = ("default" : Str)) ∧ glB sc ("max" : Str) = true ∧ C.fre ("max" : Str) = true then
    (match r sc a, r sc d with
    | some ⟨x, hx⟩, some ⟨y, hy⟩ => some ⟨.bi .maxd (.cons x (.cons y .nil)), by obtain ⟨⟨hh, rfl, rfl⟩, h1, h2⟩ := h; exact .mxd hh h1 h2 hx hy⟩
    | _, _ => none)
  else none
def trE1 (sc : Scope) : (e : Expr) → OE C sc e
  | .Name x pos => trNm C sc x pos
  | .Constant (.int i) _ _ => some ⟨.c (.int i), .int⟩
  | .Constant (.bool i) _ _ => some ⟨.c (.bool i), .bl⟩
  | .Constant .none _ _ => some ⟨.c .none, .non⟩
  | .Constant (.str i) _ _ => some ⟨.c (.str i), .str⟩
  | .BinOp a o b _ => (match bopI o, r sc a, r sc b with
    | some ⟨p, hp⟩, some ⟨x, h1⟩, some ⟨y, h2⟩ => some ⟨.bin p x y, by subst hp; exact .bin h1 h2⟩
    | _, _, _ => none)
  | .Compare a [o] [b] _ => (match copI o, r sc a, r sc b with
    | ⟨p, hp⟩, some ⟨x, h1⟩, some ⟨y, h2⟩ => if hs : isSet b = false then some ⟨.cmp p x y, by subst hp; exact .cmp h1 h2 hs⟩ else none
    | _, _, _ => none)
  | .UnaryOp .USub a _ => (match r sc a with
    | some ⟨x, h⟩ => some ⟨.neg x, .neg h⟩
    | none => none)
  | .UnaryOp .Not a _ => (match r sc a with
    | some ⟨x, h⟩ => some ⟨.not' x, .not' h⟩
    | none => none)
  | .IfExp t a b _ => (match r sc t, r sc a, r sc b with
    | some ⟨w, h1⟩, some ⟨x, h2⟩, some ⟨y, h3⟩ => some ⟨.ife w x y, .ife h1 h2 h3⟩
    | _, _, _ => none)
  | .BoolOp .And (a :: b :: q) _ => (match trBA C r sc (a :: b :: q) with
    | some ⟨x, h⟩ => some ⟨x, .and' h⟩
    | none => none)
  | .BoolOp .Or (a :: b :: q) _ => (match trBO C r sc (a :: b :: q) with
    | some ⟨x, h⟩ => some ⟨x, .or' h⟩
    | none => none)
  | .Tuple es _ _ => (match trEs C r sc es with
    | some ⟨x, h⟩ => if hl : es.length ≤ 1000 then some ⟨.tup x, .tup h hl⟩ else none
    | none => none)
  | .List es _ => (match trEs C r sc es with
    | some ⟨x, h⟩ => some ⟨.lst x, .lst h⟩
    | none => none)
  | .Dict [] [] _ => some ⟨.dct [] .nil, .dct0⟩
  | .Dict (k :: ks) vs _ => (match trD C r sc (k :: ks) vs with
    | some ⟨p, h⟩ => if hl : (k :: ks).length ≤ 15 then some ⟨.dct p.1 p.2, .dct h hl⟩ else none
    | none => none)
  | .Subscript a b pos => trSub C r sc a b pos
  | .Call (.Name f p) (e :: es) [] pos => trCall C r sc f p e es pos
  | .Call (.Name f p) [] [] pos => trCall0 C sc f p pos
  | .Call (.Name f p) [a] [⟨some kw, d, kp⟩] pos => trMax C r sc f p a kw d kp pos
  | .Call (.Attribute o a apos) es [] cpos => trMth C r sc o a apos es cpos
  | .ListComp elt [⟨.Name x tp, iter, ifs, 0⟩] sc' pos => trComp C r sc sc' elt x tp iter ifs pos
  | _ => none
end
def trE (C : TC) : Nat → ∀ (sc : Scope) (e : Expr), OE C sc e
  | 0 => fun _ _ => none
  | n + 1 => trE1 C (trE C n)
abbrev OS (C : TC) (sc : Scope) (s : Stmt) : Type := Option {m : Sm // TrS C sc s m}
abbrev RE : Type := ∀ (C : TC) (sc : Scope) (e : Expr), OE C sc e
abbrev RS' : Type := ∀ (C : TC) (sc : Scope) (s : Stmt), OS C sc s
section
variable (e : RE) (r : RS')
def trGs (C : TC) (sc : Scope) : (es : List Expr) → Option {is : List Nat // TrGs C sc es is}
  | [] => some ⟨[], .nil⟩
  | .Name x p :: es => (match nmI C x, trGs C sc es with
    | some ⟨i, hi⟩, some ⟨is, hs⟩ => if h : locB sc x = true then some ⟨i :: is, .cons hi h hs⟩ else none
    | _, _ => none)
  | _ => none
def trG (C : TC) (sc : Scope) : (t : Expr) → Option {m : Tg // TrG C sc t m}
  | .Name x p => (match nmI C x with
    | some ⟨i, hi⟩ => if h : locB sc x = true then some ⟨.nm i, .nm hi h⟩ else none
    | none => none)
  | .Tuple es k p => (match trGs C sc es with
    | some ⟨is, h⟩ => if hh : C.hot = false then some ⟨.tp is, .tp hh h⟩ else none
    | none => none)
  | _ => none
def trSs (C : TC) (sc : Scope) : (ss : List Stmt) → Option {m : Sms // TrSs C sc ss m}
  | [] => some ⟨.nil, .nil⟩
  | s :: ss => match r C sc s, trSs C sc ss with
    | some ⟨m, h⟩, some ⟨ms, hs⟩ => some ⟨.cons m ms, .cons h hs⟩
    | _, _ => none
def clI (C : TC) (sc : Scope) (x : Str) : Option {k : Nat // glB sc x = true ∧ dbg x = true ∧ C.cls x = some k} := if h : glB sc x = true ∧ dbg x = true then
    (match hc : C.cls x with
    | some c => some ⟨c, h.1, h.2, rfl⟩
    | none => none)
  else none
def trHs (C : TC) (sc : Scope) : (hs : List ExceptHandler) → Option {h : Hs // TrHs C sc hs h}
  | [] => some ⟨.nil, .nil⟩
  | .ExceptHandler (some (.Name x np)) none (b₀ :: suite) pos' :: hs => (match clI C sc x, trSs r C.heat sc (b₀ :: suite), trHs C sc hs with
    | some ⟨k, h1, h2, h3⟩, some ⟨m, hm⟩, some ⟨h, hh⟩ => some ⟨.cons (yesL C k) (noL C k) m h, .cons h1 h2 h3 hm hh⟩
    | _, _, _ => none)
  | _ => none
def trTry (C : TC) (sc : Scope) (b : List Stmt) (pos : Pos) : (hs : List ExceptHandler) → OS C sc (.Try b hs [] [] pos)
  | [] => none
  | [.ExceptHandler (some (.Name x np)) (some n) (b₀ :: suite) pos'] => if hh : C.hot = false ∧ sc.names.lookup n = some .local then
      (match clI C sc x, trSs r C sc b, nmI C n, trSs r C.heat sc (b₀ :: suite) with
      | some ⟨k, h1, h2, h3⟩, some ⟨m, hm⟩, some ⟨i, hi⟩, some ⟨h, hs⟩ => some ⟨.tryA m (yesL C k) (noL C k) i h, .tryA hh.1 hm h1 h2 h3 hi hh.2 hs⟩
      | _, _, _, _ => none)
    else none
  | h₀ :: hs => if hh : C.hot = false then
      (match trSs r C sc b, trHs r C sc (h₀ :: hs) with
      | some ⟨m, hm⟩, some ⟨h, ht⟩ => some ⟨.tryM m h, .tryM hh hm ht⟩
      | _, _ => none)
    else none
def trS1 (C : TC) (sc : Scope) : (s : Stmt) → OS C sc s
  | .Assign [.Name x p] v pos => (match nmI C x, e C sc v with
    | some ⟨i, hi⟩, some ⟨m, hm⟩ => if h : locB sc x = true then
        (if hl : isLc v = false then some ⟨.asg (.nm i) m, .asgN hi h hm hl⟩
        else if hl : swB sc x p v = true then some ⟨.asg (.nm i) m, .asgC hi h hm hl⟩
        else if hl : sc.names.lookup x = some .cell then some ⟨.asg (.nm i) m, .asgD hi h hm hl⟩ else none)
      else none
    | _, _ => none)
  | .Assign [.Tuple es k p] v pos => (match trGs C sc es, e C sc v with
    | some ⟨is, hi⟩, some ⟨m, hm⟩ => if h : C.hot = false ∧ isLc v = false ∧ isTup v = false then some ⟨.asg (.tp is) m, .asgT h.1 hi hm h.2.1 h.2.2⟩ else none
    | _, _ => none)
  | .Assign [.Subscript o i p] v pos => (match e C sc o, e C sc i, e C sc v with
    | some ⟨x, hx⟩, some ⟨y, hy⟩, some ⟨z, hz⟩ => if h : isLc v = false ∧ isSl i = false then some ⟨.setI x y z, .setI hx hy hz h.1 h.2⟩ else none
    | _, _, _ => none)
  | .Expr v pos => (match e C sc v with
    | some ⟨m, hm⟩ => if h : isLc v = false then some ⟨.ex m, .ex hm h⟩ else none
    | none => none)
  | .Return (some v) pos => (match e C sc v with
    | some ⟨m, hm⟩ => some ⟨.ret m, .ret hm⟩
    | none => none)
  | .Return none pos => some ⟨.retN, .retN⟩
  | .If t a b pos => (match e C sc t, trSs r C sc a, trSs r C sc b with
    | some ⟨x, hx⟩, some ⟨y, hy⟩, some ⟨z, hz⟩ => some ⟨.ift x y z, .ift hx hy hz⟩
    | _, _, _ => none)
  | .For t it b [] pos => if hh : C.hot = false then (match trG C sc t, trI C (e C) sc t it, trSs r C sc b with
    | some ⟨x, hx⟩, some ⟨y, hy⟩, some ⟨z, hz⟩ => some ⟨.for' x y z, .for' hh hx hy hz⟩
    | _, _, _ => none) else none
  | .While t b [] pos => if hh : C.hot = false then (match e C sc t, trSs r C sc b with
    | some ⟨x, hx⟩, some ⟨z, hz⟩ => some ⟨.while x z, .while hh hx hz⟩
    | _, _ => none) else none
  | .Raise (some (.Call (.Name x p) [.Constant (.str m) j p2] [] p3)) none pos => if hh : C.hot = false then (match clI C sc x with
      | some ⟨c, h1, h2, h3⟩ => some ⟨.raise c, .raise hh h1 h2 h3⟩
      | none => none) else none
  | .Try b hs [] [] pos => trTry r C sc b pos hs
  | .Continue pos => some ⟨.cont, .cont⟩
  | .Pass pos => some ⟨.pass, .pass⟩
  | _ => none
end
def trS : Nat → RS'
  | 0 => fun _ _ _ => none
  | n + 1 => trS1 (fun C => trE C 40) (trS n)
/-- a def's small form -/
def readD (C : TC) (sc : Scope) (b : List Stmt) : Option Sms := (trSs (trS 20) C sc b).map (·.1)
theorem readD_ok {C : TC} {sc : Scope} {b : List Stmt} {m : Sms} (h : readD C sc b = some m) : TrSs C sc b m := by
  unfold readD at h
  cases q : trSs (trS 20) C sc b with
  | none => rw [q] at h; cases h
  | some p => rw [q] at h; cases h; exact p.2
end Kp

set_option Elab.async false
set_option linter.all false
set_option maxRecDepth 100000
set_option maxHeartbeats 8000000
set_option autoImplicit false
/-! K13: from a law's tables to its end. -/
namespace Kp
open PySem PySem.Spec PyProof.Rows L2
/-- a def of the text: where it stands, its names, its small form -/
structure DD where
  st : Stmt
  x : Str
  N : List Str
  ps : List Str
  m : Sms
inductive Cst where
  | int (i : Int)
  | str (s : Str)
def Cst.p : Cst → P
  | .int i => .int i
  | .str s => .str s
def Cst.fa (x : Str) : Cst → He.Fa
  | .int i => .int x i
  | .str s => .str x s
def ixOf (x : Str) (f : DD → Str) : List DD → Nat → Option Nat
  | [], _ => none
  | d :: r, k => if f d = x then some k else ixOf x f r (k + 1)
theorem ixOf_get {x : Str} {f : DD → Str} : ∀ {ds : List DD} {k i : Nat}, ixOf x f ds k = some i → ∃ j d, i = k + j ∧ ds[j]? = some d ∧ f d = x
  | [], k, i, h => by cases h
  | d :: r, k, i, h => by
    unfold ixOf at h
    split at h
    · rename_i e
      cases h
      exact ⟨0, d, rfl, rfl, e⟩
    · obtain ⟨j, d', e1, e2, e3⟩ := ixOf_get h
      exact ⟨j + 1, d', by omega, e2, e3⟩
def ixS (x : Str) : List Str → Nat → Option Nat
  | [], _ => none
  | y :: r, k => if y = x then some k else ixS x r (k + 1)
theorem ixS_get {x : Str} : ∀ {ds : List Str} {k i : Nat}, ixS x ds k = some i → ∃ j, i = k + j ∧ ds[j]? = some x
  | [], k, i, h => by cases h
  | d :: r, k, i, h => by
    unfold ixS at h
    split at h
    · rename_i e
      cases h
      subst e
      exact ⟨0, rfl, rfl⟩
    · obtain ⟨j, e1, e2⟩ := ixS_get h
      exact ⟨j + 1, by omega, e2⟩
def lkC (x : Str) : List (Str × Cst) → Option P
  | [] => none
  | (y, c) :: r => if y = x then some c.p else lkC x r
theorem lkC_get {x : Str} {p : P} : ∀ {ds : List (Str × Cst)}, lkC x ds = some p → ∃ c, (x, c) ∈ ds ∧ c.p = p
  | [], h => by cases h
  | (y, c) :: r, h => by
    unfold lkC at h
    split at h
    · rename_i e
      cases h; subst e
      exact ⟨c, List.mem_cons_self, rfl⟩
    · obtain ⟨c', m, e⟩ := lkC_get h
      exact ⟨c', List.mem_cons_of_mem _ m, e⟩
def lkE (c k : Nat) : List (Nat × Nat × Bool) → Option Bool
  | [] => none
  | (a, b, v) :: r => if a = c ∧ b = k then some v else lkE c k r
theorem lkE_get {c k : Nat} {v : Bool} : ∀ {l : List (Nat × Nat × Bool)}, lkE c k l = some v → (c, k, v) ∈ l
  | [], h => by cases h
  | (a, b, u) :: r, h => by
    unfold lkE at h
    split at h
    · rename_i e
      obtain ⟨rfl, rfl⟩ := e
      cases h
      exact List.mem_cons_self
    · exact List.mem_cons_of_mem _ (lkE_get h)
def VEr : Str := "ValueError"
def lkI (x : Str) (c : Nat) : List (Str × Nat × Bool) → Option Bool
  | [] => none
  | (y, b, v) :: r => if y = x ∧ b = c then some v else lkI x c r
theorem lkI_get {x : Str} {c : Nat} {v : Bool} : ∀ {l : List (Str × Nat × Bool)}, lkI x c l = some v → (x, c, v) ∈ l
  | [], h => by cases h
  | (y, b, u) :: r, h => by
    unfold lkI at h
    split at h
    · rename_i e
      obtain ⟨rfl, rfl⟩ := e
      cases h
      exact List.mem_cons_self
    · exact List.mem_cons_of_mem _ (lkI_get h)
/-- which defs are called where one is handled; of which classes are the instances -/
structure Hot where
  hot : List Nat := []
  isx : List (Str × Nat × Bool) := []
  tcs : List (Str × P) := []
def lkT (x : Str) : List (Str × P) → Option P
  | [] => none
  | (y, c) :: r => if y = x then some c else lkT x r
theorem lkT_get {x : Str} {p : P} : ∀ {ds : List (Str × P)}, lkT x ds = some p → (x, p) ∈ ds
  | [], h => by cases h
  | (y, c) :: r, h => by
    unfold lkT at h
    split at h
    · rename_i e
      cases h; subst e
      exact List.mem_cons_self
    · exact List.mem_cons_of_mem _ (lkT_get h)
/-! data of the head, in the frozen part of the heap -/
mutual
def relPB (K : PySem.W.Frag) : P → Value → Bool
  | .none, .none => true
  | .bool a, .bool b => a == b
  | .int i, .int j _ => decide (i = j)
  | .str s, .str y _ => decide (s = y)
  | .tuple ds, .ref a => match K.lookup a with
    | some o => decide (o.cls = .type "tuple") && (match o.data with
      | .seq its _ => decide (its.size ≤ sizeLine) && relPBs K ds its.toList
      | _ => false)
    | none => false
  | _, _ => false
def relPBs (K : PySem.W.Frag) : List P → List Value → Bool
  | [], [] => true
  | d :: ds, v :: vs => relPB K d v && relPBs K ds vs
  | _, _ => false
end
mutual
theorem relPB_ok (K : PySem.W.Frag) : ∀ (d : P) (v : Value), relPB K d v = true → ∃ x : V, RelV x v ∧ ∀ H, RelP K H d x
  | .none, v, h => by
    cases v <;> first | (rw [relPB] at h; exact ⟨.non, rfl, fun H => .non⟩) | (simp [relPB] at h)
  | .bool a, v, h => by
    cases v <;> first | (simp [relPB] at h; subst h; exact ⟨.bl a, rfl, fun H => .bl a⟩) | (simp [relPB] at h)
  | .int i, v, h => by
    cases v <;> first | (simp [relPB] at h; subst h; exact ⟨.int i, ⟨_, rfl⟩, fun H => .int i⟩) | (simp [relPB] at h)
  | .str i, v, h => by
    cases v <;> first | (simp [relPB] at h; subst h; exact ⟨.str i, ⟨_, rfl⟩, fun H => .str i⟩) | (simp [relPB] at h)
  | .tuple ds, v, h => by
    cases v with
    | ref a =>
      rw [relPB] at h
      split at h
      · rename_i o ho
        rw [Bool.and_eq_true] at h
        obtain ⟨h1, h2⟩ := h
        split at h2
        · rename_i its n hd
          rw [Bool.and_eq_true] at h2
          obtain ⟨xs, r1, r2⟩ := relPBs_ok K ds its.toList h2.2
          exact ⟨.ref a, rfl, fun H => .tup (.inr ⟨o, its, n, ho, of_decide_eq_true h1, hd, of_decide_eq_true h2.1, r1⟩) (r2 H)⟩
        · cases h2
      · cases h
    | _ => simp [relPB] at h
  | .list _, v, h => by simp [relPB] at h
  | .dict _, v, h => by simp [relPB] at h
theorem relPBs_ok (K : PySem.W.Frag) : ∀ (ds : List P) (vs : List Value), relPBs K ds vs = true → ∃ xs : List V, Vals xs vs ∧ ∀ H, RelPs K H ds xs
  | [], [], _ => ⟨[], .nil, fun H => .nil⟩
  | d :: ds, v :: vs, h => by
    rw [relPBs, Bool.and_eq_true] at h
    obtain ⟨x, a1, a2⟩ := relPB_ok K d v h.1
    obtain ⟨xs, b1, b2⟩ := relPBs_ok K ds vs h.2
    exact ⟨x :: xs, .cons a1 b1, fun H => .cons (a2 H) (b2 H)⟩
  | [], _ :: _, h => by simp [relPBs] at h
  | _ :: _, [], h => by simp [relPBs] at h
end
def tcB (K : PySem.W.Frag) (q : Str × P) : Bool := match PySem.W.nsIn K mainGlobals q.1 with
  | some (some v) => relPB K q.2 v
  | _ => false
def glOf (dd : List DD) (fre : List Str) (cst : List (Str × Cst)) (cls : List Str) (exm : List (Nat × Nat × Bool)) (ht : Hot := {}) : GL where
  fn x := ixOf x (·.x) dd 0
  cst x := (lkC x cst).or (lkT x ht.tcs)
  cls x := ixS x cls 0
  fre x := fre.any fun y => decide (y = x)
  exm c k := lkE c k exm
  ncl := cls.length
  hfn f := ht.hot.any fun i => decide (i = f)
  isx x c := if c < cls.length then (if x = VEr then (if (fre.any fun y => decide (y = VEr)) = true then lkI x c ht.isx else none) else if (cls.any fun y => decide (y = x)) = true then lkI x c ht.isx else none) else none
def tabOf (dd : List DD) (f : Nat) : Option FD := match dd[f]? with
  | some d => some ⟨d.ps.length, d.N.length, d.m⟩
  | none => none
structure Stc (g : GL) (T : Nat → Option FD) (d : DD) (i : Nat) : Prop where
  ok : DefOk g T i d.N d.ps (defBody d.st) (defScope d.st)
  b : ∀ (kV doc pm : Value) (an : Option Addr) (cdv ct : Value) (us : List Value), us.length = d.ps.length → bindArgs (PySem.W.fnOf d.x d.x (defArgs d.st) (defBody d.st) (defScope d.st) .none kV doc pm an cdv ct) ⟨us, []⟩ = pure (d.ps.zip us)
def AllS (g : GL) (T : Nat → Option FD) : List DD → Nat → Prop
  | [], _ => True
  | d :: r, i => Stc g T d i ∧ AllS g T r (i + 1)
theorem AllS.get {g : GL} {T : Nat → Option FD} : ∀ {ds : List DD} {k j : Nat} {d : DD}, AllS g T ds k → ds[j]? = some d → Stc g T d (k + j)
  | [], k, j, d, h, e => by simp at e
  | a :: r, k, 0, d, h, e => by
    simp at e; subst e; exact h.1
  | a :: r, k, j + 1, d, h, e => by
    have := AllS.get (k := k + 1) (j := j) h.2 (by simpa using e)
    have e2 : k + (j + 1) = k + 1 + j := by omega
    rw [e2]; exact this
/-- the head's data -/
def DD.fn (d : DD) : He.DefD := ⟨(d.x, none), d.x, d.x, defArgs d.st, defBody d.st, defScope d.st, [], []⟩
def fnOfD (dd : List DD) : List He.DefD := dd.map DD.fn
def nmC (cls : List Str) (c : Nat) : Str := cls[c]?.getD Str.empty
def faOfD (dd : List DD) (fre : List Str) (cst : List (Str × Cst)) (cls : List Str) (exm : List (Nat × Nat × Bool)) : List He.Fa :=
  dd.map (fun d => .glo d.x) ++ fre.map .free ++ cst.map (fun p => p.2.fa p.1) ++ cls.map .glo ++ cls.map .exc ++ exm.map fun q => .exm (nmC cls q.1) (nmC cls q.2.1) q.2.2
theorem fact_mem {fa : List He.Fa} {fn : List He.DefD} {K : PySem.W.Frag} (c : He.SaysD fa fn K) {f : He.Fa} (h : f ∈ fa) : f.ok K = true := by
  obtain ⟨i, hi⟩ := List.mem_iff_getElem?.mp h
  exact c.fact i hi
/-! what a class of exceptions wants -/
def isNamed (x : Str) : List Str → Bool := fun l => l.any fun y => decide (y = x)
def exC (K : PySem.W.Frag) (D : Addr) : Bool :=
  decide (PySem.W.findIn K (.ref D) "__getattribute__" = some (some (.builtin "BaseException.__getattribute__"))) && (decide (PySem.W.findIn K (.ref D) "__getattr__" = some none) && (decide (PySem.W.subIn K (.ref D) (.type "BaseException") = some true) && (PySem.W.hasDictIn K D &&
    (decide (PySem.W.findIn K (.ref D) "__class__" = some (some (.builtin "object.__class__"))) && (decide (PySem.W.specialIn K (.builtin "object.__class__") "__get__" = some (some (.builtin "getset_descriptor.__get__"))) && (decide (PySem.W.takesIn K (.builtin "object.__class__") = some true) &&
      decide (PySem.W.mroIn K D (.type "object") = some true)))))))
theorem exC_ok {K : PySem.W.Frag} {D : Addr} (h : exC K D = true) : L2.ExcC K D := by
  unfold exC at h
  simp only [Bool.and_eq_true, decide_eq_true_eq] at h
  obtain ⟨h1, h2, h3, h4, h5, h6, h7, h8⟩ := h
  exact ⟨h1, h2, h3, h4, h5, h6, h7, h8⟩
/-- a class by its name, as a value -/
def nmV (K : PySem.W.Frag) (x : Str) : Value := if x = VEr then .type "ValueError" else .ref (He.ga K x)
def isxB (cls : List Str) (ht : Hot) (K : PySem.W.Frag) : Bool := ht.tcs.all (tcB K) && ht.isx.all fun q => exC K (He.ga K (nmC cls q.2.1)) && decide (PySem.W.kitOne K (.ref (He.ga K (nmC cls q.2.1))) (nmV K q.1) = some q.2.2)
section
variable {dd : List DD} {fre : List Str} {cst : List (Str × Cst)} {cls : List Str} {exm : List (Nat × Nat × Bool)} {ht : Hot} {T : Nat → Option FD} {K : PySem.W.Frag} {mg : Str → Option Value} {h : Heap}
def cvOf (K : PySem.W.Frag) (cls : List Str) (c : Nat) : Value := .ref (He.ga K (nmC cls c))
theorem facts_ok (X : K.In h) (G : h.Ns mainGlobals mg) (c : He.SaysD (faOfD dd fre cst cls exm) (fnOfD dd) K) (e : isxB cls ht K = true) : Facts (glOf dd fre cst cls exm ht) (cvOf K cls) K mg := by
  refine ⟨fun x hx => ?_, fun x k hx => ?_, fun x i hx => ?_, fun a k b hx => ?_, fun x i b hx => ?_⟩
  · obtain ⟨y, hy, e⟩ := List.any_eq_true.mp hx
    have e := of_decide_eq_true e
    subst e
    exact He.free_ok X G (fact_mem c (by simp [faOfD, hy]))
  · have hx : (lkC x cst).or (lkT x ht.tcs) = some k := hx
    cases hq : lkC x cst with
    | none =>
      rw [hq] at hx
      have m := lkT_get hx
      have e := (Bool.and_eq_true _ _ ▸ e : _ ∧ _).1
      have q := List.all_eq_true.mp e _ m
      unfold tcB at q
      split at q
      · rename_i v hv
        obtain ⟨xv, r1, r2⟩ := relPB_ok K _ _ q
        exact ⟨xv, v, PySem.W.mg_of X G hv, r1, r2⟩
      · cases q
    | some k2 =>
    rw [hq] at hx
    have hx : lkC x cst = some k := by rw [hq]; exact hx
    obtain ⟨z, hz, e⟩ := lkC_get hx
    subst e
    cases z with
    | int i =>
      obtain ⟨t, ht⟩ := He.int_ok X G (x := x) (i := i) (fact_mem c (by simp only [faOfD, List.mem_append]; exact .inl (.inl (.inl (.inr (List.mem_map.mpr ⟨_, hz, rfl⟩))))))
      exact ⟨.int i, _, ht, ⟨t, rfl⟩, fun H => .int i⟩
    | str i =>
      obtain ⟨t, ht⟩ := He.str_ok X G (x := x) (z := i) (fact_mem c (by simp only [faOfD, List.mem_append]; exact .inl (.inl (.inl (.inr (List.mem_map.mpr ⟨_, hz, rfl⟩))))))
      exact ⟨.str i, _, ht, ⟨t, rfl⟩, fun H => .str i⟩
  · obtain ⟨j, e, hj⟩ := ixS_get hx
    rw [Nat.zero_add] at e
    subst e
    have hm := List.mem_of_getElem? hj
    have h1 := He.glo_ok X G (x := x) (fact_mem c (by simp [faOfD, hm]))
    obtain ⟨a1, a2, a3, a4⟩ := He.exc_ok (x := x) (K := K) (fact_mem c (by simp [faOfD, hm]))
    refine ⟨_, h1, ?_, a1, a2, a3, a4⟩
    unfold cvOf nmC
    rw [hj]; rfl
  · exact He.exm_ok (K := K) (fact_mem c (by simp only [faOfD, List.mem_append]; exact .inr (List.mem_map.mpr ⟨_, lkE_get hx, rfl⟩)))
  · have hx : (if i < cls.length then (if x = VEr then (if (fre.any fun y => decide (y = VEr)) = true then lkI x i ht.isx else none) else if (cls.any fun y => decide (y = x)) = true then lkI x i ht.isx else none) else none) = some b := hx
    have fit : lkI x i ht.isx = some b → exC K (He.ga K (nmC cls i)) = true ∧ PySem.W.kitOne K (.ref (He.ga K (nmC cls i))) (nmV K x) = some b := fun z => by
      have e := (Bool.and_eq_true _ _ ▸ e : _ ∧ _).2
      have q := List.all_eq_true.mp e _ (lkI_get z)
      simp only [Bool.and_eq_true, decide_eq_true_eq] at q
      exact q
    split at hx
    · split at hx
      · rename_i hv
        split at hx
        · rename_i hf
          obtain ⟨f1, f2⟩ := fit hx
          obtain ⟨y, hy, ey⟩ := List.any_eq_true.mp hf
          have ey := of_decide_eq_true ey
          subst ey
          unfold nmV at f2
          rw [if_pos hv] at f2
          refine ⟨_, .ty "ValueError", .type "ValueError", rfl, exC_ok f1, f2, rfl, fun u hu => hu, .inr ⟨?_, ?_⟩⟩
          · rw [hv]; exact He.free_ok X G (fact_mem c (by simp [faOfD, hy]))
          · rw [hv]; decide +kernel
        · cases hx
      · rename_i hv
        split at hx
        · rename_i hf
          obtain ⟨f1, f2⟩ := fit hx
          obtain ⟨y, hy, ey⟩ := List.any_eq_true.mp hf
          have ey := of_decide_eq_true ey
          subst ey
          unfold nmV at f2
          rw [if_neg hv] at f2
          exact ⟨_, .ref (He.ga K y), .ref (He.ga K y), rfl, exC_ok f1, f2, rfl, fun u hu => hu, .inl (He.glo_ok X G (x := y) (fact_mem c (by simp [faOfD, hy])))⟩
        · cases hx
    · cases hx
theorem defs_ok (X : K.In h) (G : h.Ns mainGlobals mg) (c : He.SaysD (faOfD dd fre cst cls exm) (fnOfD dd) K) (A : AllS (glOf dd fre cst cls exm ht) T dd 0) :
    ∀ y i, (glOf dd fre cst cls exm ht).fn y = some i → ∃ (a : Addr) (fd : FuncData) (qual : Str) (params : Arguments) (body : List Stmt) (sc : Scope) (N ps : List Str), mg y = some (.ref a) ∧ FunD K y qual params body sc [] [] a fd ∧ Binds K fd ps [] ∧ DefOk (glOf dd fre cst cls exm ht) T i N ps body sc := by
  intro y i hy
  obtain ⟨j, d, e, hj, hx⟩ := ixOf_get hy
  rw [Nat.zero_add] at e
  subst e hx
  have s := A.get hj
  rw [Nat.zero_add] at s
  have hm := List.mem_of_getElem? hj
  obtain ⟨fd, F⟩ := c.def_ i (d := d.fn) (by unfold fnOfD; rw [List.getElem?_map, hj]; rfl)
  exact ⟨_, fd, _, _, _, _, d.N, d.ps, He.glo_ok X G (x := d.x) (fact_mem c (by simp only [faOfD, List.mem_append]; exact .inl (.inl (.inl (.inl (.inl (List.mem_map.mpr ⟨d, hm, rfl⟩))))))), F, FunD.bindsN F s.b, s.ok⟩
/-- what a run of the law's def in the small language gives -/
theorem law_sp {n f : Nat} {a : Addr} {ns : List Int} {H : Hp} {S' : Sto} {CV : Nat → Value} (hO : Only H) (hS : SqL K H a (ns.map V.int))
    (hr : callE T n f [.p (.list (ns.map PyData.int))] [] = .ok (.p (.bool true)) S') : @spE xc0 K CV (callE T n) f [.ref a] H (fun v _ => v = .bl true) fun _ _ _ => False := by
  letI : Xc := xc0
  have fr : FrzL K H a (ns.map V.int) := by
    rcases hS with h | h
    · rcases hO a with e | ⟨o, xs, e⟩
      · rcases h with h | ⟨o, h⟩ <;> (rw [e] at h; cases h)
      · rcases h with h | ⟨o', h⟩
        · rw [e] at h; cases h
        · exact .inl ⟨_, h⟩
    · exact .inr h
  have ri : ∀ l : List Int, RelPs K H (l.map PyData.int) (l.map V.int) := by
    intro l
    induction l with
    | nil => exact .nil
    | cons i l ih => exact .cons (.int i) ih
  refine ⟨fun _ => 0, [], [.p (.list (ns.map PyData.int))], ⟨fun i c hc => by simp at hc, fun i j hi hj _ => absurd hi (Nat.not_lt_zero _)⟩, .cons (.p (.lst fr (ri ns))) .nil, ?_⟩
  rw [hr]
  intro ρ' H' x e s' r
  cases r with | p r =>
  cases r
  rfl
end
/-- a law's end, what is let out told world by world -/
theorem walk_w {l : PySem.W.OpenLaw} {n k : Nat} {q : Program} {loose : List Str} {XP : (Str → Option Value) → Heap → Prop} {YP : World → Heap → Prop} {d : DefRec} {x : Str}
    (hn : l.most = some n) (hn2 : n ≤ sizeLine) (hdf : d.params.defaults = []) (hr : Room k callerA)
    (F : ∀ (w : World) (mg : Str → Option Value) (fa : Addr) (h : Heap), YP w h → h.Ns mainGlobals mg → mg d.name = some (.ref fa) →
      ∃ (K : PySem.W.Frag) (fd : FuncData) (sp : Sp), K.In h ∧ (∀ (s : Shared) (u : Value), BindsTo s fd ⟨[u], []⟩ [(x, u)]) ∧
        (∀ (H : Hp) (a : Addr) (ns : List Int), ns.length ≤ n → Only H → SqL K H a (ns.map V.int) → sp [.ref a] H (fun v _ => v = .bl true) fun _ _ _ => False) ∧
        ∀ base : Heap, K.In base → base.Ns mainGlobals mg → FnOk l.prog w K mg base (L2N.CX l.prog w) k fa fd [x] sp) :
    PySem.W.WalkO q loose XP YP l.row.toRowW d [] (fun f vs => PySem.call f vs) := by
  refine Att.attach_call hn hdf fun w s₀ s₁ mg _ fa _ _ _ _ _ _ _ G Y _ _ _ hmg ho hi hl hg => ?_
  obtain ⟨K, fd, sp, KX, hb, hsp, hF⟩ := F w mg fa _ Y G.T.g hmg
  refine law_call KX G.T.g G.T.b G.T.builtins G.T.nolimit hg ho hi (Nat.le_trans hl hn2) hr hF hb (fun H o S => hsp H _ _ hl o S) fun H e s' c => ?_
  obtain ⟨_, _, _, _, _, _, _, _, _, _, _, _, z⟩ := c
  exact z
end Kp

set_option Elab.async false
set_option linter.all false
set_option maxRecDepth 100000
set_option maxHeartbeats 8000000
set_option autoImplicit false
/-! L1: running the small language by rewriting. -/
namespace Kp
open PySem PySem.Spec PyProof.Rows L2
instance (priority := low) xcD : Xc := xc0
theorem map_inj {a b : List Char} (h : a.map Char.toNat = b.map Char.toNat) : a = b := by
  induction a generalizing b with
  | nil => cases b with
    | nil => rfl
    | cons _ _ => cases h
  | cons x a ih =>
    cases b with
    | nil => cases h
    | cons y b =>
      simp only [List.map_cons, List.cons.injEq] at h
      rw [ih h.2]
      have e : x = y := Char.ext (UInt32.toNat_inj.mp h.1)
      rw [e]
@[simp] theorem ofS_inj {a b : String} : (Str.ofString a = Str.ofString b) = (a = b) := by
  apply propext
  refine ⟨fun h => ?_, fun h => by rw [h]⟩
  rw [Str.ofString_eq_toList, Str.ofString_eq_toList] at h
  have h2 := congrArg (fun q : Str => q.cps.toList) h
  exact String.toList_inj.mp (map_inj h2)
/-! results -/
section
variable {α β : Type} {f : α → Sto → R β} {g : α → Sto → RS} {a : α} {S : Sto} {c : Nat} {en : En}
@[simp] theorem bind_ok : (R.ok a S).bind f = f a S := id rfl
@[simp] theorem bind_ex : (R.ex c S : R α).bind f = .ex c S := id rfl
@[simp] theorem bind_no : (R.no : R α).bind f = .no := id rfl
@[simp] theorem st_ok : (R.ok a S).st en g = g a S := id rfl
@[simp] theorem st_ex : (R.ex c S : R α).st en g = .ex c en S := id rfl
@[simp] theorem st_no : (R.no : R α).st en g = .no := id rfl
end
def oV (o : Option (Option PV)) (S : Sto) : R PV := match o with
  | some (some x) => .ok x S
  | _ => .no
def oP (o : Option P) (S : Sto) : R PV := match o with
  | some x => .ok (.p x) S
  | none => .no
def oW (o : Option PV) (S : Sto) : R PV := match o with
  | some x => .ok x S
  | none => .no
def oL (o : Option (List P)) (S : Sto) : R PV := match o with
  | some x => newL x S
  | none => .no
def RS.seq (r : RS) (f : En → Sto → RS) : RS := match r with
  | .nx en S => f en S
  | q => q
section
variable {x : PV} {p : P} {xs : List P} {S : Sto} {en : En} {f : En → Sto → RS} {v : PV} {c : Nat}
@[simp] theorem oV_s : oV (some (some x)) S = .ok x S := id rfl
@[simp] theorem oP_s : oP (some p) S = .ok (.p p) S := id rfl
@[simp] theorem oW_s : oW (some x) S = .ok x S := id rfl
@[simp] theorem oL_s : oL (some xs) S = newL xs S := id rfl
@[simp] theorem seq_nx : (RS.nx en S).seq f = f en S := id rfl
@[simp] theorem seq_rt : (RS.rt v S).seq f = .rt v S := id rfl
@[simp] theorem seq_ct : (RS.ct en S).seq f = .ct en S := id rfl
@[simp] theorem seq_ex : (RS.ex c en S).seq f = .ex c en S := id rfl
@[simp] theorem seq_no : (RS.no).seq f = .no := id rfl
end
/-! continuations, by names -/
section
variable (cl : Cl) (en : En)
def kBin (o : Bop) (b : Ex) (x : PV) (S : Sto) : R PV := (ev cl b en S).bind (binV o x)
def kBin' (o : Bop) (b : Ex) (x : PV) (S : Sto) : R Bool := ((ev cl b en S).bind (binV o x)).bind truV
def kBl (b : Bool) (S : Sto) : R PV := .ok (.p (.bool b)) S
def kCmp2 (o : Cop) (x y : PV) (S : Sto) : R PV := (cmpV o x y S).bind kBl
def kCmp (o : Cop) (b : Ex) (x : PV) (S : Sto) : R PV := (ev cl b en S).bind (kCmp2 o x)
def kCmpT (o : Cop) (b : Ex) (x : PV) (S : Sto) : R Bool := (ev cl b en S).bind (cmpV o x)
def kNeg (x : PV) (S : Sto) : R PV := match x with
  | .p (.int i) => okP (.int (-i)) S
  | _ => .no
def kAnd (b : Ex) (x : PV) (S : Sto) : R PV := match x with
  | .p (.bool c) => if c = true then ev cl b en S else okP (.bool false) S
  | _ => .no
def kOr (b : Ex) (x : PV) (S : Sto) : R PV := match x with
  | .p (.bool c) => if c = true then okP (.bool true) S else ev cl b en S
  | _ => .no
def kNot' (c : Bool) (S : Sto) : R Bool := .ok (!c) S
def kNotV (c : Bool) (S : Sto) : R PV := .ok (.p (.bool !c)) S
def kNot (x : PV) (S : Sto) : R PV := (truV x S).bind kNotV
def kIfe (a b : Ex) (c : Bool) (S : Sto) : R PV := if c = true then ev cl a en S else ev cl b en S
def kLst (vs : List PV) (S : Sto) : R PV := oL (allP vs) S
def kIx (i : Ex) (x : PV) (S : Sto) : R PV := (ev cl i en S).bind (ixV x)
def kIxT (i : Ex) (x : PV) (S : Sto) : R Bool := ((ev cl i en S).bind (ixV x)).bind truV
def kSl2 (hi : Oe) (x : PV) (l : Option Int) (S : Sto) : R PV := (evO cl hi en S).bind (slV x l)
def kSl (lo hi : Oe) (x : PV) (S : Sto) : R PV := (evO cl lo en S).bind (kSl2 cl en hi x)
def kMth (m : Mt) (es : Exs) (x : PV) (S : Sto) : R PV := if mtTy m x S = true then (evs cl es en S).bind (mtV m x) else .no
def kIsx (ys ns : List Nat) (x : PV) (S : Sto) : R PV := (isxV ys ns x S).bind kBl
def kIsi (t : Ty) (x : PV) (S : Sto) : R PV := (isiV t x S).bind kBl
def kEvs2 (x : PV) (xs : List PV) (S : Sto) : R (List PV) := .ok (x :: xs) S
def kEvs (es : Exs) (x : PV) (S : Sto) : R (List PV) := (evs cl es en S).bind (kEvs2 x)
def kO (x : PV) (S : Sto) : R (Option Int) := match x with
  | .p (.int i) => .ok (some i) S
  | _ => .no
def kAndT (b : Ex) (c : Bool) (S : Sto) : R Bool := if c = true then evT cl b en S else .ok false S
def kOrT (b : Ex) (c : Bool) (S : Sto) : R Bool := if c = true then .ok true S else evT cl b en S
def kR1 (x : PV) (S : Sto) : R Its' := match x with
  | .p (.int i) => rngI 0 i S
  | _ => .no
def kR2b (x y : PV) (S : Sto) : R Its' := match x, y with
  | .p (.int i), .p (.int j) => rngI i j S
  | _, _ => .no
def kR2 (b : Ex) (x : PV) (S : Sto) : R Its' := (ev cl b en S).bind (kR2b x)
def kZip (b : Ex) (x : PV) (S : Sto) : R Its' := (ev cl b en S).bind (zipI x)
def kRev (q : Its') (S : Sto) : R Its' := .ok (q.1.reverse, []) S
def kCmpD (d : Nat) (_ : Unit) (S : Sto) : R PV := .ok (.loc d) S
def kComp (i : Nat) (tst : Oe) (e : Ex) (q : Its') (S : Sto) : R PV := (compL (ev cl e) (evC cl tst) i q.2 S.length q.1 en (S ++ [.lst []])).bind (kCmpD S.length)
def kDct2 (S0 : Sto) (c : Option Cell) (k : Option (List (Key × P))) (S' : Sto) : R PV := match c, k with
  | some (.dct []), some kvs => .ok (.loc S0.length) (S'.set S0.length (.dct kvs))
  | _, _ => .no
def kDct (S0 : Sto) (ks : List Str) (vs : List PV) (S' : Sto) : R PV := kDct2 S0 (S'[S0.length]?) (dctV ks vs []) S'
def kAsg2 (o : Option En) (S : Sto) : RS := match o with
  | some en => .nx en S
  | none => .no
def kAsg (t : Tg) (x : PV) (S : Sto) : RS := kAsg2 (tgV t x en) S
def kNx {α : Type} (_ : α) (S : Sto) : RS := .nx en S
def kSet3 (v o i : PV) (S : Sto) : RS := (setV o i v S).st en (kNx en)
def kSet2 (i : Ex) (v o : PV) (S : Sto) : RS := (ev cl i en S).st en (kSet3 en v o)
def kSet (o i : Ex) (v : PV) (S : Sto) : RS := (ev cl o en S).st en (kSet2 cl en i v)
def kRt (x : PV) (S : Sto) : RS := .rt x S
def kIf (a b : Sms) (c : Bool) (S : Sto) : RS := if c = true then exss cl a en S else exss cl b en S
def kFor (t : Tg) (b : Sms) (q : Its') (S : Sto) : RS := forL t q.2 (exss cl b) q.1 en S
end
section
variable {cl : Cl} {en : En} {S : Sto} {a b e i t : Ex} {es : Exs} {lo hi tst : Oe} {x y : PV} {f n : Nat} {j : Int} {p : P}
@[simp] theorem ev_v : ev cl (.v n) en S = oV en[n]? S := by simp only [ev]; rfl
@[simp] theorem ev_c : ev cl (.c p) en S = .ok (.p p) S := by simp only [ev]
@[simp] theorem ev_bin {o : Bop} : ev cl (.bin o a b) en S = (ev cl a en S).bind (kBin cl en o b) := by simp only [ev]; rfl
@[simp] theorem kBin_ {o : Bop} : kBin cl en o b x S = (ev cl b en S).bind (binV o x) := id rfl
@[simp] theorem ev_cmp {o : Cop} : ev cl (.cmp o a b) en S = (ev cl a en S).bind (kCmp cl en o b) := by simp only [ev]; rfl
@[simp] theorem kCmp_ {o : Cop} : kCmp cl en o b x S = (ev cl b en S).bind (kCmp2 o x) := id rfl
@[simp] theorem kCmp2_ {o : Cop} : kCmp2 o x y S = (cmpV o x y S).bind kBl := id rfl
@[simp] theorem kBl_ {b : Bool} : kBl b S = .ok (.p (.bool b)) S := id rfl
@[simp] theorem ev_neg : ev cl (.neg a) en S = (ev cl a en S).bind kNeg := by simp only [ev]; rfl
@[simp] theorem kNeg_ : kNeg (.p (.int j)) S = .ok (.p (.int (-j))) S := id rfl
@[simp] theorem ev_and : ev cl (.and' a b) en S = (ev cl a en S).bind (kAnd cl en b) := by simp only [ev]; rfl
@[simp] theorem kAnd_t : kAnd cl en b (.p (.bool true)) S = ev cl b en S := id rfl
@[simp] theorem kAnd_f : kAnd cl en b (.p (.bool false)) S = .ok (.p (.bool false)) S := id rfl
@[simp] theorem ev_or : ev cl (.or' a b) en S = (ev cl a en S).bind (kOr cl en b) := by simp only [ev]; rfl
@[simp] theorem kOr_t : kOr cl en b (.p (.bool true)) S = .ok (.p (.bool true)) S := id rfl
@[simp] theorem kOr_f : kOr cl en b (.p (.bool false)) S = ev cl b en S := id rfl
@[simp] theorem ev_not : ev cl (.not' a) en S = (ev cl a en S).bind kNot := by simp only [ev]; rfl
@[simp] theorem kNot_ : kNot x S = (truV x S).bind kNotV := id rfl
@[simp] theorem kNotV_ {c : Bool} : kNotV c S = .ok (.p (.bool !c)) S := id rfl
@[simp] theorem ev_ife : ev cl (.ife t a b) en S = (evT cl t en S).bind (kIfe cl en a b) := by simp only [ev]; rfl
@[simp] theorem kIfe_t : kIfe cl en a b true S = ev cl a en S := id rfl
@[simp] theorem kIfe_f : kIfe cl en a b false S = ev cl b en S := id rfl
@[simp] theorem ev_tup : ev cl (.tup es) en S = (evs cl es en S).bind tupV := by simp only [ev]
@[simp] theorem ev_lst : ev cl (.lst es) en S = (evs cl es en S).bind kLst := by simp only [ev]; rfl
@[simp] theorem kLst_ {vs : List PV} : kLst vs S = oL (allP vs) S := id rfl
@[simp] theorem ev_dct {ks : List Str} : ev cl (.dct ks es) en S = (evs cl es en (S ++ [.dct []])).bind (kDct S ks) := by simp only [ev]; rfl
@[simp] theorem kDct_ {S' : Sto} {ks : List Str} {vs : List PV} : kDct S ks vs S' = kDct2 S (S'[S.length]?) (dctV ks vs []) S' := id rfl
@[simp] theorem kDct2_ {S' : Sto} {kvs : List (Key × P)} : kDct2 S (some (.dct [])) (some kvs) S' = .ok (.loc S.length) (S'.set S.length (.dct kvs)) := id rfl
@[simp] theorem ev_ix : ev cl (.ix a i) en S = (ev cl a en S).bind (kIx cl en i) := by simp only [ev]; rfl
@[simp] theorem kIx_ : kIx cl en i x S = (ev cl i en S).bind (ixV x) := id rfl
@[simp] theorem ev_sl : ev cl (.sl a lo hi) en S = (ev cl a en S).bind (kSl cl en lo hi) := by simp only [ev]; rfl
@[simp] theorem kSl_ : kSl cl en lo hi x S = (evO cl lo en S).bind (kSl2 cl en hi x) := id rfl
@[simp] theorem kSl2_ {l : Option Int} : kSl2 cl en hi x l S = (evO cl hi en S).bind (slV x l) := id rfl
@[simp] theorem ev_rev : ev cl (.rev a) en S = (ev cl a en S).bind revV := by simp only [ev]
@[simp] theorem ev_call : ev cl (.call f es) en S = (evs cl es en S).bind (cl f) := by simp only [ev]
@[simp] theorem ev_bi {b : Bi} : ev cl (.bi b es) en S = (evs cl es en S).bind (biV b) := by simp only [ev]
@[simp] theorem ev_mth {m : Mt} : ev cl (.mth m a es) en S = (ev cl a en S).bind (kMth cl en m es) := by simp only [ev]; rfl
theorem kMth_ {m : Mt} (h : mtTy m x S = true) : kMth cl en m es x S = (evs cl es en S).bind (mtV m x) := if_pos h
@[simp] theorem ev_isi {t : Ty} : ev cl (.isi a t) en S = (ev cl a en S).bind (kIsi t) := by simp only [ev]; rfl
@[simp] theorem ev_isx {ys ns : List Nat} : ev cl (.isx a ys ns) en S = (ev cl a en S).bind (kIsx ys ns) := by simp only [ev]; rfl
@[simp] theorem kIsx_ {ys ns : List Nat} : kIsx ys ns x S = (isxV ys ns x S).bind kBl := id rfl
@[simp] theorem isx_y {ys ns : List Nat} {c : Nat} (q : ys.contains c = true) : isxV ys ns (.exc c) S = .ok true S := if_pos q
@[simp] theorem isx_n {ys ns : List Nat} {c : Nat} (q : ys.contains c = false) (q2 : ns.contains c = true) : isxV ys ns (.exc c) S = .ok false S := (if_neg (by rw [q]; decide)).trans (if_pos q2)
@[simp] theorem kIsi_ {t : Ty} : kIsi t x S = (isiV t x S).bind kBl := id rfl
@[simp] theorem ev_comp {it : Ix} : ev cl (.comp n it tst e) en S = (evI cl it en S).bind (kComp cl en n tst e) := by simp only [ev]; rfl
@[simp] theorem evs_nil : evs cl .nil en S = .ok [] S := by simp only [evs]
@[simp] theorem evs_cons : evs cl (.cons e es) en S = (ev cl e en S).bind (kEvs cl en es) := by simp only [evs]; rfl
@[simp] theorem kEvs_ : kEvs cl en es x S = (evs cl es en S).bind (kEvs2 x) := id rfl
@[simp] theorem kEvs2_ {xs : List PV} : kEvs2 x xs S = .ok (x :: xs) S := id rfl
@[simp] theorem evO_non : evO cl .non en S = .ok none S := by simp only [evO]
@[simp] theorem evO_one : evO cl (.one e) en S = (ev cl e en S).bind kO := by simp only [evO]; rfl
@[simp] theorem kO_ : kO (.p (.int j)) S = .ok (some j) S := id rfl
@[simp] theorem evC_non : evC cl .non en S = .ok true S := by simp only [evC]
@[simp] theorem evC_one : evC cl (.one e) en S = evT cl e en S := by simp only [evC]
@[simp] theorem evI_val : evI cl (.val e) en S = (ev cl e en S).bind valI := by simp only [evI]
@[simp] theorem evI_r1 : evI cl (.rng1 a) en S = (ev cl a en S).bind kR1 := by simp only [evI]; rfl
@[simp] theorem kR1_ : kR1 (.p (.int j)) S = rngI 0 j S := id rfl
@[simp] theorem evI_r2 : evI cl (.rng2 a b) en S = (ev cl a en S).bind (kR2 cl en b) := by
  simp only [evI]
  unfold kR2
  congr 1
  funext x S
  congr 1
  funext y S
  unfold kR2b intR
  cases x with
  | p x => cases x <;> first | rfl | (cases y with | p y => (cases y <;> rfl) | _ => rfl)
  | _ => rfl
@[simp] theorem kR2_ : kR2 cl en b x S = (ev cl b en S).bind (kR2b x) := id rfl
@[simp] theorem kR2b_ {k : Int} : kR2b (.p (.int j)) (.p (.int k)) S = rngI j k S := id rfl
@[simp] theorem evI_zip : evI cl (.zip a b) en S = (ev cl a en S).bind (kZip cl en b) := by simp only [evI]; rfl
@[simp] theorem kZip_ : kZip cl en b x S = (ev cl b en S).bind (zipI x) := id rfl
@[simp] theorem evI_rr : evI cl (.revR a) en S = (ev cl a en S).bind fun x S => (kR1 x S).bind kRev := by simp only [evI]; rfl
@[simp] theorem kRev_ {q : Its'} : kRev q S = .ok (q.1.reverse, []) S := id rfl
@[simp] theorem evI_rl : evI cl (.revL a) en S = (ev cl a en S).bind revI := by simp only [evI]
@[simp] theorem evT_cmp {o : Cop} : evT cl (.cmp o a b) en S = (ev cl a en S).bind (kCmpT cl en o b) := by simp only [evT]; rfl
@[simp] theorem kCmpT_ {o : Cop} : kCmpT cl en o b x S = (ev cl b en S).bind (cmpV o x) := id rfl
@[simp] theorem evT_and : evT cl (.and' a b) en S = (evT cl a en S).bind (kAndT cl en b) := by simp only [evT]; rfl
@[simp] theorem kAndT_t : kAndT cl en b true S = evT cl b en S := id rfl
@[simp] theorem kAndT_f : kAndT cl en b false S = .ok false S := id rfl
@[simp] theorem evT_or : evT cl (.or' a b) en S = (evT cl a en S).bind (kOrT cl en b) := by simp only [evT]; rfl
@[simp] theorem kOrT_t : kOrT cl en b true S = .ok true S := id rfl
@[simp] theorem kOrT_f : kOrT cl en b false S = evT cl b en S := id rfl
@[simp] theorem evT_not : evT cl (.not' a) en S = (evT cl a en S).bind kNot' := by simp only [evT]; rfl
@[simp] theorem kNot'_ {c : Bool} : kNot' c S = .ok (!c) S := id rfl
@[simp] theorem evT_v : evT cl (.v n) en S = (oV en[n]? S).bind truV := by
  simp only [evT]
  cases q : en[n]? with
  | none => rfl
  | some o => cases o <;> rfl
@[simp] theorem evT_c : evT cl (.c p) en S = truV (.p p) S := by simp only [evT]
@[simp] theorem evT_bin {o : Bop} : evT cl (.bin o a b) en S = (ev cl a en S).bind (kBin' cl en o b) := by
  simp only [evT]
  unfold kBin'
  congr 1
  funext x S
  cases ev cl b en S <;> rfl
@[simp] theorem kBin'_ {o : Bop} : kBin' cl en o b x S = ((ev cl b en S).bind (binV o x)).bind truV := id rfl
@[simp] theorem evT_ix : evT cl (.ix a i) en S = (ev cl a en S).bind (kIxT cl en i) := by
  simp only [evT]
  unfold kIxT
  congr 1
  funext x S
  cases ev cl i en S <;> rfl
@[simp] theorem kIxT_ : kIxT cl en i x S = ((ev cl i en S).bind (ixV x)).bind truV := id rfl
@[simp] theorem evT_call : evT cl (.call f es) en S = ((evs cl es en S).bind (cl f)).bind truV := by
  simp only [evT]
  cases evs cl es en S <;> rfl
@[simp] theorem evT_bi {b : Bi} : evT cl (.bi b es) en S = ((evs cl es en S).bind (biV b)).bind truV := by
  simp only [evT]
  cases evs cl es en S <;> rfl
@[simp] theorem evT_isx {ys ns : List Nat} : evT cl (.isx a ys ns) en S = (ev cl a en S).bind (isxV ys ns) := by
  simp only [evT]
  congr 1
  funext x S
  cases isxV ys ns x S <;> rfl
@[simp] theorem evT_isi {t : Ty} : evT cl (.isi a t) en S = (ev cl a en S).bind (isiV t) := by
  simp only [evT]
  congr 1
  funext x S
  cases isiV t x S <;> rfl
end
def kTry (cl : Cl) (h : Hs) (r : RS) : RS := match r with
  | .ex c en S => hds cl h c en S
  | q => q
def kTryA (cl : Cl) (cs ms : List Nat) (i : Nat) (h : Sms) (r : RS) : RS := match r with
  | .ex c en S => if cs.contains c = true then goneR i (exss cl h (en.set i (some (.exc c))) S) else if ms.contains c = true then .ex c en S else .no
  | q => q
section
variable {cl : Cl} {en : En} {S : Sto} {e o i : Ex} {x y v : PV} {a b r : Sms} {s : Sm} {c n : Nat}
@[simp] theorem exs_asg {t : Tg} : exs cl (.asg t e) en S = (ev cl e en S).st en (kAsg en t) := by simp only [exs]; rfl
@[simp] theorem kAsg_ {t : Tg} : kAsg en t x S = kAsg2 (tgV t x en) S := id rfl
@[simp] theorem kAsg2_ : kAsg2 (some en) S = .nx en S := id rfl
@[simp] theorem tgV_n {v : PV} : tgV (.nm n) v en = some (en.set n (some v)) := id rfl
@[simp] theorem exs_set : exs cl (.setI o i e) en S = (ev cl e en S).st en (kSet cl en o i) := by simp only [exs]; rfl
@[simp] theorem kSet_ : kSet cl en o i v S = (ev cl o en S).st en (kSet2 cl en i v) := id rfl
@[simp] theorem kSet2_ : kSet2 cl en i v x S = (ev cl i en S).st en (kSet3 en v x) := id rfl
@[simp] theorem kSet3_ : kSet3 en v x y S = (setV x y v S).st en (kNx en) := id rfl
@[simp] theorem kNx_ {α : Type} {u : α} : kNx en u S = .nx en S := id rfl
@[simp] theorem exs_ex : exs cl (.ex e) en S = (ev cl e en S).st en (kNx en) := by simp only [exs]; rfl
@[simp] theorem exs_ret : exs cl (.ret e) en S = (ev cl e en S).st en kRt := by simp only [exs]; rfl
@[simp] theorem kRt_ : kRt x S = .rt x S := id rfl
@[simp] theorem exs_retN : exs cl .retN en S = .rt (.p .none) S := by simp only [exs]
@[simp] theorem exs_ift {t : Ex} : exs cl (.ift t a b) en S = (evT cl t en S).st en (kIf cl en a b) := by simp only [exs]; rfl
@[simp] theorem kIf_t : kIf cl en a b true S = exss cl a en S := id rfl
@[simp] theorem kIf_f : kIf cl en a b false S = exss cl b en S := id rfl
@[simp] theorem exs_for {t : Tg} {it : Ix} : exs cl (.for' t it b) en S = (evI cl it en S).st en (kFor cl en t b) := by simp only [exs]; rfl
@[simp] theorem kFor_ {t : Tg} {q : Its'} : kFor cl en t b q S = forL t q.2 (exss cl b) q.1 en S := id rfl
@[simp] theorem exs_while {t : Ex} : exs cl (.while t b) en S = whileL (evT cl t) (exss cl b) WL en S := by simp only [exs]
@[simp] theorem exs_raise : exs cl (.raise c) en S = .ex c en S := by simp only [exs]
variable {h : Hs} {cs ms : List Nat} {k : Nat}
@[simp] theorem exs_tryM : exs cl (.tryM b h) en S = kTry cl h (exss cl b en S) := by simp only [exs]; rfl
@[simp] theorem kTry_nx : kTry cl h (.nx en S) = .nx en S := id rfl
@[simp] theorem kTry_ct : kTry cl h (.ct en S) = .ct en S := id rfl
@[simp] theorem kTry_rt : kTry cl h (.rt v S) = .rt v S := id rfl
@[simp] theorem kTry_ex : kTry cl h (.ex c en S) = hds cl h c en S := id rfl
@[simp] theorem hds_nil : hds cl .nil c en S = .ex c en S := by simp only [hds]
@[simp] theorem hds_y (q : cs.contains c = true) : hds cl (.cons cs ms b h) c en S = noEx (exss cl b en S) := by simp only [hds]; rw [if_pos q]
@[simp] theorem hds_n (q : cs.contains c = false) (q2 : ms.contains c = true) : hds cl (.cons cs ms b h) c en S = hds cl h c en S := by simp only [hds]; rw [if_neg (by rw [q]; decide), if_pos q2]
@[simp] theorem hasX_p {z : P} : hasX (.p z) = false := id rfl
@[simp] theorem hasX_l {z : Nat} : hasX (.loc z) = false := id rfl
@[simp] theorem hasX_m {z : List PV} : hasX (.mt z) = hasXs z := id rfl
@[simp] theorem hasX_x {z : Nat} : hasX (.exc z) = true := id rfl
@[simp] theorem hasXs_n : hasXs [] = false := id rfl
@[simp] theorem hasXs_c {z : List PV} : hasXs (x :: z) = (hasX x || hasXs z) := id rfl
@[simp] theorem hasXE_n : hasXE [] = false := id rfl
@[simp] theorem hasXE_o : hasXE (none :: en) = hasXE en := id rfl
@[simp] theorem hasXE_s : hasXE (some x :: en) = (hasX x || hasXE en) := id rfl
@[simp] theorem noEx_nx (q : hasXE en = false) : noEx (.nx en S) = .nx en S := if_neg (by rw [q]; decide)
@[simp] theorem noEx_rt (q : hasX v = false) : noEx (.rt v S) = .rt v S := if_neg (by rw [q]; decide)
@[simp] theorem noEx_ct (q : hasXE en = false) : noEx (.ct en S) = .ct en S := if_neg (by rw [q]; decide)
@[simp] theorem exs_tryA : exs cl (.tryA b cs ms k a) en S = kTryA cl cs ms k a (exss cl b en S) := by simp only [exs]; rfl
@[simp] theorem kTryA_nx : kTryA cl cs ms k a (.nx en S) = .nx en S := id rfl
@[simp] theorem kTryA_ct : kTryA cl cs ms k a (.ct en S) = .ct en S := id rfl
@[simp] theorem kTryA_rt : kTryA cl cs ms k a (.rt v S) = .rt v S := id rfl
@[simp] theorem kTryA_y (q : cs.contains c = true) : kTryA cl cs ms k a (.ex c en S) = goneR k (exss cl a (en.set k (some (.exc c))) S) := if_pos q
@[simp] theorem kTryA_n (q : cs.contains c = false) (q2 : ms.contains c = true) : kTryA cl cs ms k a (.ex c en S) = .ex c en S := (if_neg (by rw [q]; decide)).trans (if_pos q2)
@[simp] theorem gone_nx (q : hasXE (en.set k none) = false) : goneR k (.nx en S) = .nx (en.set k none) S := if_neg (by rw [q]; decide)
@[simp] theorem gone_ct (q : hasXE (en.set k none) = false) : goneR k (.ct en S) = .ct (en.set k none) S := if_neg (by rw [q]; decide)
@[simp] theorem gone_rt (q : hasX v = false) : goneR k (.rt v S) = .rt v S := if_neg (by rw [q]; decide)
@[simp] theorem exs_cont : exs cl .cont en S = .ct en S := by simp only [exs]
@[simp] theorem exs_pass : exs cl .pass en S = .nx en S := by simp only [exs]
@[simp] theorem exss_nil : exss cl .nil en S = .nx en S := by simp only [exss]
@[simp] theorem exss_cons : exss cl (.cons s r) en S = (exs cl s en S).seq (exss cl r) := by simp only [exss]; rfl
end
/-! operations at their forms -/
section
variable {S : Sto} {i j : Int} {a b : Str} {x : P} {xs ys : List P} {l k : Nat} {p q : Bool} {kvs : List (Key × P)}
@[simp] theorem b_add : binV .add (.p (.int i)) (.p (.int j)) S = .ok (.p (.int (i + j))) S := id rfl
@[simp] theorem b_sub : binV .sub (.p (.int i)) (.p (.int j)) S = .ok (.p (.int (i - j))) S := id rfl
@[simp] theorem b_mul (h : CMulB i j = true) : binV .mul (.p (.int i)) (.p (.int j)) S = .ok (.p (.int (i * j))) S := if_pos h
@[simp] theorem cmul_r (h : -18446744073709551616 < j ∧ j < 18446744073709551616) : CMulB i j = true := by
  unfold CMulB
  simp only [Bool.or_eq_true, Bool.and_eq_true, decide_eq_true_eq]
  exact .inr ⟨by omega, by omega⟩
@[simp] theorem cmul_l (h : -18446744073709551616 < i ∧ i < 18446744073709551616) : CMulB i j = true := by
  unfold CMulB
  simp only [Bool.or_eq_true, Bool.and_eq_true, decide_eq_true_eq]
  exact .inl ⟨by omega, by omega⟩
@[simp] theorem b_fdiv (h : 0 < j ∧ j < 1073741824) : binV .fdiv (.p (.int i)) (.p (.int j)) S = .ok (.p (.int (i / j))) S := if_pos h
@[simp] theorem b_mod (h : 0 < j) : binV .mod (.p (.int i)) (.p (.int j)) S = .ok (.p (.int (i % j))) S := if_pos h
@[simp] theorem b_str (h : a.length + b.length ≤ 1000000) : binV .add (.p (.str a)) (.p (.str b)) S = .ok (.p (.str (a ++ b))) S := if_pos h
@[simp] theorem b_tup (h : xs.length + ys.length ≤ 1000000) : binV .add (.p (.tuple xs)) (.p (.tuple ys)) S = .ok (.p (.tuple (xs ++ ys))) S := if_pos h
def addC (c d : Option Cell) (S : Sto) : R PV := match c, d with
  | some (.lst a), some (.lst b) => newL (a ++ b) S
  | _, _ => .no
@[simp] theorem b_loc : binV .add (.loc l) (.loc k) S = addC S[l]? S[k]? S := id rfl
@[simp] theorem addC_ : addC (some (.lst xs)) (some (.lst ys)) S = newL (xs ++ ys) S := id rfl
def mulC (c : Option Cell) (k : Int) (S : Sto) : R PV := match c with
  | some (.lst a) => if -(2 ^ 63) ≤ k ∧ k < 2 ^ 63 ∧ a.length * k.toNat ≤ 1000000 then newL (List.replicate k.toNat a).flatten S else .no
  | _ => .no
@[simp] theorem b_mulL : binV .mul (.loc l) (.p (.int i)) S = mulC S[l]? i S := id rfl
@[simp] theorem mulC_ (h : 0 ≤ i ∧ i ≤ 1000000 ∧ xs.length * i.toNat ≤ 1000000) : mulC (some (.lst xs)) i S = newL (List.replicate i.toNat xs).flatten S := if_pos ⟨by omega, by omega, h.2.2⟩
@[simp] theorem b_repS (h : 0 ≤ i ∧ i ≤ 1000000 ∧ a.length * i.toNat ≤ 1000000) : binV .mul (.p (.str a)) (.p (.int i)) S = .ok (.p (.str (repS a i.toNat))) S := if_pos h
@[simp] theorem b_repT (h : 0 ≤ i ∧ i ≤ 1000 ∧ xs.length ≤ 1000 ∧ xs.isEmpty = false) : binV .mul (.p (.tuple xs)) (.p (.int i)) S = .ok (.p (.tuple (List.replicate i.toNat xs).flatten)) S := if_pos h
@[simp] theorem newL_ (h : xs.length ≤ 1000000) : newL xs S = .ok (.loc S.length) (S ++ [.lst xs]) := if_pos h
@[simp] theorem newC_ : newC xs S = .ok (.loc S.length) (S ++ [.lst xs]) := id rfl
@[simp] theorem allP_nil : allP [] = some [] := id rfl
@[simp] theorem allP_p {r : List PV} : allP (.p x :: r) = (allP r).map (x :: ·) := id rfl
def tupO (o : Option (List P)) (vs : List PV) (S : Sto) : R PV := match o with
  | some xs => .ok (.p (.tuple xs)) S
  | none => .ok (.mt vs) S
@[simp] theorem allP_l {r : List PV} : allP (.loc l :: r) = none := id rfl
@[simp] theorem tup_ {vs : List PV} (h : vs.length ≤ 1000000) : tupV vs S = tupO (allP vs) vs S := by
  unfold tupV
  rw [if_pos h]
  cases allP vs <;> rfl
@[simp] theorem tupO_s {vs : List PV} : tupO (some xs) vs S = .ok (.p (.tuple xs)) S := id rfl
@[simp] theorem tupO_n {vs : List PV} : tupO none vs S = .ok (.mt vs) S := id rfl
@[simp] theorem e_int : eqV' (.p (.int i)) (.p (.int j)) S = .ok (decide (i = j)) S := id rfl
@[simp] theorem e_str : eqV' (.p (.str a)) (.p (.str b)) S = .ok (decide (a = b)) S := id rfl
@[simp] theorem c_eq {x y : PV} : cmpV .eq x y S = eqV' x y S := id rfl
@[simp] theorem c_ne {x y : PV} : cmpV .ne x y S = (eqV' x y S).bind kNot' := id rfl
@[simp] theorem c_lt : cmpV .lt (.p (.int i)) (.p (.int j)) S = .ok (decide (i < j)) S := id rfl
@[simp] theorem c_le : cmpV .le (.p (.int i)) (.p (.int j)) S = .ok (decide (i ≤ j)) S := id rfl
@[simp] theorem c_gt : cmpV .gt (.p (.int i)) (.p (.int j)) S = .ok (decide (j < i)) S := id rfl
@[simp] theorem c_ge : cmpV .ge (.p (.int i)) (.p (.int j)) S = .ok (decide (j ≤ i)) S := id rfl
@[simp] theorem c_inn {x y : PV} : cmpV .inn x y S = inV' x y S := id rfl
@[simp] theorem c_nin {x y : PV} : cmpV .nin x y S = (inV' x y S).bind kNot' := id rfl
@[simp] theorem c_is0 : cmpV .is (.p x) (.p .none) S = .ok (nonP x) S := id rfl
@[simp] theorem c_is1 : cmpV .is (.loc l) (.p .none) S = .ok false S := id rfl
@[simp] theorem c_isn0 : cmpV .isn (.p x) (.p .none) S = .ok (!nonP x) S := id rfl
@[simp] theorem c_isn1 : cmpV .isn (.loc l) (.p .none) S = .ok true S := id rfl
@[simp] theorem c_isb : cmpV .is (.p (.bool p)) (.p (.bool q)) S = .ok (decide (p = q)) S := id rfl
@[simp] theorem nonP_n : nonP .none = true := id rfl
@[simp] theorem nonP_i : nonP (.int i) = false := id rfl
@[simp] theorem nonP_s : nonP (.str a) = false := id rfl
@[simp] theorem nonP_b : nonP (.bool p) = false := id rfl
@[simp] theorem nonP_t : nonP (.tuple xs) = false := id rfl
@[simp] theorem nonP_l : nonP (.list xs) = false := id rfl
def inT (xs : List P) (a : P) : Bool := xs.any fun y => PyData.eqv y a
@[simp] theorem in_tup (h : (flatP x && xs.all flatP) = true) : inV' (.p x) (.p (.tuple xs)) S = .ok (inT xs x) S := by
  cases x <;> first | exact if_pos h | cases h
def inC (x : P) (c : Option Cell) (S : Sto) : R Bool := match c with
  | some (.dct kvs) => (match keyP x with
    | some k => .ok (luK kvs k).isSome S
    | none => .no)
  | some (.lst xs) => if (flatP x && xs.all flatP) = true then .ok (xs.any fun y => PyData.eqv y x) S else .no
  | _ => .no
@[simp] theorem in_loc : inV' (.p x) (.loc l) S = inC x S[l]? S := by
  cases x <;> rfl
@[simp] theorem inC_l (h : (flatP x && xs.all flatP) = true) : inC x (some (.lst xs)) S = .ok (inT xs x) S := if_pos h
@[simp] theorem inC_ds : inC (.str a) (some (.dct kvs)) S = .ok (luK kvs (.inr a)).isSome S := id rfl
@[simp] theorem inC_di : inC (.int i) (some (.dct kvs)) S = .ok (luK kvs (.inl i)).isSome S := id rfl
def inS (a b : Str) : Bool := decide (a.cps.getD 0 0 ∈ b.cps.toList)
@[simp] theorem in_str (h : a.length = 1) : inV' (.p (.str a)) (.p (.str b)) S = .ok (inS a b) S := if_pos h
@[simp] theorem in_chr {c : Nat} : inV' (.p (.str ⟨#[c]⟩)) (.p (.str b)) S = .ok (inS ⟨#[c]⟩ b) S := in_str rfl
@[simp] theorem inT_nil : inT [] x = false := id rfl
@[simp] theorem inT_cons {y : P} : inT (y :: xs) x = (PyData.eqv y x || inT xs x) := id rfl
@[simp] theorem eqv_ii : PyData.eqv (.int i) (.int j) = decide (i = j) := id rfl
@[simp] theorem eqv_ss : PyData.eqv (.str a) (.str b) = decide (a = b) := by
  show (a == b) = _
  by_cases h : a = b
  · subst h; simp
  · simp [h]
@[simp] theorem flat_i : flatP (.int i) = true := id rfl
@[simp] theorem flat_s : flatP (.str a) = true := id rfl
@[simp] theorem flat_b : flatP (.bool p) = true := id rfl
@[simp] theorem flat_n : flatP .none = true := id rfl
@[simp] theorem t_b : truV (.p (.bool p)) S = .ok p S := id rfl
@[simp] theorem t_n : truV (.p .none) S = .ok false S := id rfl
@[simp] theorem t_i : truV (.p (.int i)) S = .ok (i != 0) S := id rfl
@[simp] theorem t_s (h : a.length ≤ 1000000) : truV (.p (.str a)) S = .ok (a.length != 0) S := if_pos h
@[simp] theorem t_t : truV (.p (.tuple xs)) S = .ok (!xs.isEmpty) S := id rfl
def truC (c : Option Cell) (S : Sto) : R Bool := match c with
  | some (.lst xs) => .ok (!xs.isEmpty) S
  | some (.dct xs) => .ok (!xs.isEmpty) S
  | none => .no
@[simp] theorem t_l : truV (.loc l) S = truC S[l]? S := id rfl
@[simp] theorem truC_l : truC (some (.lst xs)) S = .ok (!xs.isEmpty) S := id rfl
@[simp] theorem truC_d : truC (some (.dct kvs)) S = .ok (!kvs.isEmpty) S := id rfl
@[simp] theorem ix_tup : ixV (.p (.tuple xs)) (.p (.int i)) S = oP (ixP xs i) S := by
  show (match ixP xs i with
    | some v => okP v S
    | none => .no) = _
  cases ixP xs i <;> rfl
@[simp] theorem ix_lst : ixV (.p (.list xs)) (.p (.int i)) S = oP (ixP xs i) S := by
  show (match ixP xs i with
    | some v => okP v S
    | none => .no) = _
  cases ixP xs i <;> rfl
@[simp] theorem ix_mt {xs : List PV} : ixV (.mt xs) (.p (.int i)) S = oW (ixP xs i) S := by
  show (match ixP xs i with
    | some v => (R.ok v S : R PV)
    | none => .no) = _
  cases ixP xs i <;> rfl
def oC (o : Option Nat) (S : Sto) : R PV := match o with
  | some c => .ok (.p (.str ⟨#[c]⟩)) S
  | none => .no
@[simp] theorem oC_ {c : Nat} : oC (some c) S = .ok (.p (.str ⟨#[c]⟩)) S := id rfl
@[simp] theorem ix_str (h : a.length ≤ 1000000) : ixV (.p (.str a)) (.p (.int i)) S = oC (ixP a.cps.toList i) S := by
  refine (if_pos h).trans ?_
  cases ixP a.cps.toList i <;> rfl
def ixC (c : Option Cell) (k : P) (S : Sto) : R PV := match c with
  | some (.lst xs) => (match k with
    | .int i => oP (ixP xs i) S
    | _ => .no)
  | some (.dct kvs) => (match keyP k with
    | some k => oP (luK kvs k) S
    | none => .no)
  | none => .no
@[simp] theorem ix_loc : ixV (.loc l) (.p x) S = ixC S[l]? x S := by
  unfold ixV ixC
  dsimp only
  cases S[l]? with
  | none => rfl
  | some c => cases c with
    | lst xs => cases x with
      | int i => dsimp only; cases ixP xs i <;> rfl
      | _ => rfl
    | dct kvs =>
      dsimp only
      cases keyP x with
      | none => rfl
      | some k => dsimp only; cases luK kvs k <;> rfl
@[simp] theorem ixC_l : ixC (some (.lst xs)) (.int i) S = oP (ixP xs i) S := id rfl
@[simp] theorem ixC_di : ixC (some (.dct kvs)) (.int i) S = oP (luK kvs (.inl i)) S := id rfl
@[simp] theorem ixC_ds : ixC (some (.dct kvs)) (.str a) S = oP (luK kvs (.inr a)) S := id rfl
variable {lo hi : Option Int}
@[simp] theorem sl_t : slV (.p (.tuple xs)) lo hi S = .ok (.p (.tuple (cutP xs lo hi))) S := id rfl
@[simp] theorem sl_l : slV (.p (.list xs)) lo hi S = newC (cutP xs lo hi) S := id rfl
def cutS (s : Str) (lo hi : Option Int) : Str := ⟨(cutP s.cps.toList lo hi).toArray⟩
def revS (s : Str) : Str := ⟨s.cps.toList.reverse.toArray⟩
@[simp] theorem cutS_len {s : Str} {lo hi : Option Int} {n : Nat} (h : s.length ≤ n) : (cutS s lo hi).length ≤ n := by
  unfold cutS cutP
  show (List.toArray _).size ≤ n
  rw [List.size_toArray, List.length_take, List.length_drop]
  have : s.cps.toList.length = s.length := by simp [Str.length]
  omega
@[simp] theorem revS_len {s : Str} : (revS s).length = s.length := by
  unfold revS
  show (List.toArray _).size = s.cps.size
  simp
@[simp] theorem app_len {s t : Str} : (s ++ t).length = s.length + t.length := by
  show (s.cps ++ t.cps).size = _
  rw [Array.size_append]; rfl
@[simp] theorem sl_s (h : a.length ≤ 1000000) : slV (.p (.str a)) lo hi S = .ok (.p (.str (cutS a lo hi))) S := if_pos h
def slC (c : Option Cell) (lo hi : Option Int) (S : Sto) : R PV := match c with
  | some (.lst xs) => newC (cutP xs lo hi) S
  | _ => .no
@[simp] theorem sl_loc : slV (.loc l) lo hi S = slC S[l]? lo hi S := id rfl
@[simp] theorem slC_ : slC (some (.lst xs)) lo hi S = newC (cutP xs lo hi) S := id rfl
@[simp] theorem rev_s (h : a.length ≤ 1000000) : revV (.p (.str a)) S = .ok (.p (.str (revS a))) S := if_pos h
def revC (c : Option Cell) (S : Sto) : R PV := match c with
  | some (.lst xs) => newC xs.reverse S
  | _ => .no
@[simp] theorem rev_loc : revV (.loc l) S = revC S[l]? S := id rfl
@[simp] theorem revC_ : revC (some (.lst xs)) S = newC xs.reverse S := id rfl
def lenC (c : Option Cell) (S : Sto) : R PV := match c with
  | some (.lst xs) => okP (.int xs.length) S
  | some (.dct xs) => okP (.int xs.length) S
  | none => .no
@[simp] theorem len_loc : biV .len [.loc l] S = lenC S[l]? S := id rfl
@[simp] theorem lenC_l : lenC (some (.lst xs)) S = .ok (.p (.int xs.length)) S := id rfl
@[simp] theorem lenC_d : lenC (some (.dct kvs)) S = .ok (.p (.int kvs.length)) S := id rfl
@[simp] theorem len_t : biV .len [.p (.tuple xs)] S = .ok (.p (.int xs.length)) S := id rfl
@[simp] theorem len_l : biV .len [.p (.list xs)] S = .ok (.p (.int xs.length)) S := id rfl
@[simp] theorem len_m {xs : List PV} : biV .len [.mt xs] S = .ok (.p (.int xs.length)) S := id rfl
@[simp] theorem len_s (h : a.length ≤ 1000000) : biV .len [.p (.str a)] S = .ok (.p (.int a.length)) S := if_pos h
@[simp] theorem tuple_t : biV .tup [.p (.tuple xs)] S = .ok (.p (.tuple xs)) S := id rfl
def tupC (c : Option Cell) (S : Sto) : R PV := match c with
  | some (.lst xs) => okP (.tuple xs) S
  | _ => .no
@[simp] theorem tuple_loc : biV .tup [.loc l] S = tupC S[l]? S := id rfl
@[simp] theorem tupC_ : tupC (some (.lst xs)) S = .ok (.p (.tuple xs)) S := id rfl
@[simp] theorem list_t : biV .lst [.p (.tuple xs)] S = newC xs S := id rfl
@[simp] theorem list_l : biV .lst [.p (.list xs)] S = newC xs S := id rfl
def lstC (c : Option Cell) (S : Sto) : R PV := match c with
  | some (.lst xs) => newC xs S
  | some (.dct kvs) => newC (kvs.map fun kv => pKey kv.1) S
  | none => .no
@[simp] theorem list_loc : biV .lst [.loc l] S = lstC S[l]? S := id rfl
@[simp] theorem lstC_l : lstC (some (.lst xs)) S = newC xs S := id rfl
@[simp] theorem lstC_d : lstC (some (.dct kvs)) S = newC (kvs.map fun kv => pKey kv.1) S := id rfl
def dicC (c : Option Cell) (S : Sto) : R PV := match c with
  | some (.dct kvs) => .ok (.loc S.length) (S ++ [.dct kvs])
  | _ => .no
@[simp] theorem dict_loc : biV .dict [.loc l] S = dicC S[l]? S := id rfl
@[simp] theorem dicC_ : dicC (some (.dct kvs)) S = .ok (.loc S.length) (S ++ [.dct kvs]) := id rfl
@[simp] theorem int_i : biV .int [.p (.int i)] S = .ok (.p (.int i)) S := id rfl
@[simp] theorem int_b : biV .int [.p (.bool p)] S = .ok (.p (.int (if p then 1 else 0))) S := id rfl
@[simp] theorem str_i (h : i.natAbs.log2 < 1920) : biV .str [.p (.int i)] S = .ok (.p (.str (toString i))) S := if_pos h
@[simp] theorem intsP_nil : intsP [] = some [] := id rfl
@[simp] theorem intsP_c : intsP (.int i :: xs) = (intsP xs).map (i :: ·) := id rfl
theorem intsP_map : ∀ {ns : List Int}, intsP (ns.map PyData.int) = some ns
  | [] => rfl
  | n :: ns => by show (intsP (ns.map PyData.int)).map (n :: ·) = _; rw [intsP_map]; rfl
def srtC (c : Option Cell) (S : Sto) : R PV := match c with
  | some (.lst xs) => (match intsP xs with
    | some ns => newC ((sortI ns).map .int) S
    | _ => .no)
  | _ => .no
@[simp] theorem sorted_loc : biV .sorted [.loc l] S = srtC S[l]? S := id rfl
@[simp] theorem srtC_ {ns : List Int} : srtC (some (.lst (ns.map .int))) S = newC ((sortI ns).map .int) S := by
  unfold srtC
  dsimp only
  rw [intsP_map]
@[simp] theorem max2_ : biV .max2 [.p (.int i), .p (.int j)] S = .ok (.p (.int (if j > i then j else i))) S := id rfl
@[simp] theorem min2_ : biV .min2 [.p (.int i), .p (.int j)] S = .ok (.p (.int (if j < i then j else i))) S := id rfl
def mxC (c : Option Cell) (d : P) (S : Sto) : R PV := match c with
  | some (.lst xs) => (match intsP xs with
    | some (n :: ns) => okP (.int (maxI n ns)) S
    | some [] => okP d S
    | _ => .no)
  | _ => .no
@[simp] theorem maxd_ : biV .maxd [.loc l, .p x] S = mxC S[l]? x S := id rfl
def maxL (d : Int) : List Int → Int
  | [] => d
  | n :: ns => maxI n ns
@[simp] theorem mxC_ {ns : List Int} {d : Int} : mxC (some (.lst (ns.map .int))) (.int d) S = .ok (.p (.int (maxL d ns))) S := by
  unfold mxC
  dsimp only
  rw [intsP_map]
  cases ns <;> rfl
def isLC (c : Option Cell) : Bool := match c with
  | some (.lst _) => true
  | _ => false
def isDC (c : Option Cell) : Bool := match c with
  | some (.dct _) => true
  | _ => false
@[simp] theorem isLC_ : isLC (some (.lst xs)) = true := id rfl
@[simp] theorem isDC_ : isDC (some (.dct kvs)) = true := id rfl
variable {cl : Cl} {en : En} {es : Exs} {y : P}
@[simp] theorem m_app (h : isLC S[l]? = true) : kMth cl en .append es (.loc l) S = (evs cl es en S).bind (mtV .append (.loc l)) := if_pos h
@[simp] theorem m_pop (h : isLC S[l]? = true) : kMth cl en .pop0 es (.loc l) S = (evs cl es en S).bind (mtV .pop0 (.loc l)) := if_pos h
@[simp] theorem m_rev (h : isLC S[l]? = true) : kMth cl en .reverse es (.loc l) S = (evs cl es en S).bind (mtV .reverse (.loc l)) := if_pos h
@[simp] theorem m_get (h : isDC S[l]? = true) : kMth cl en .get2 es (.loc l) S = (evs cl es en S).bind (mtV .get2 (.loc l)) := if_pos h
@[simp] theorem m_ins (h : isLC S[l]? = true) : kMth cl en .insert es (.loc l) S = (evs cl es en S).bind (mtV .insert (.loc l)) := if_pos h
@[simp] theorem m_cnt (h : isLC S[l]? = true) : kMth cl en .count es (.loc l) S = (evs cl es en S).bind (mtV .count (.loc l)) := if_pos h
@[simp] theorem m_idx (h : isLC S[l]? = true) : kMth cl en .index es (.loc l) S = (evs cl es en S).bind (mtV .index (.loc l)) := if_pos h
theorem mt_ins {xs : List P} {n : Int} {z : P} (h : S[l]? = some (.lst xs)) (h1 : xs.length < 1000000) (h2 : 0 ≤ n) (h3 : n < 2 ^ 62) : mtV .insert (.loc l) [.p (.int n), .p z] S = .ok (.p .none) (S.set l (.lst (xs.take n.toNat ++ [z] ++ xs.drop n.toNat))) := by
  unfold mtV
  dsimp only
  rw [h]
  exact if_pos ⟨h1, h2, h3⟩
theorem mt_cnt {xs : List P} {bs : List Bool} {b : Bool} (h : S[l]? = some (.lst xs)) (h1 : blsP xs = some bs) : mtV .count (.loc l) [.p (.bool b)] S = .ok (.p (.int (bs.count b : Nat))) S := by
  unfold mtV
  dsimp only
  rw [h]
  dsimp only
  rw [h1]
  rfl
theorem mt_idx {xs : List P} {z : P} {j : Nat} (h : S[l]? = some (.lst xs)) (h1 : (flatP z && xs.all flatP) = true) (h2 : xs.findIdx? (fun y => PyData.eqv y z) = some j) : mtV .index (.loc l) [.p z] S = .ok (.p (.int (j : Nat))) S := by
  unfold mtV
  dsimp only
  rw [h]
  dsimp only
  rw [if_pos h1, h2]
  rfl
@[simp] theorem m_join : kMth cl en .join es (.p (.str a)) S = (evs cl es en S).bind (mtV .join (.p (.str a))) := if_pos rfl
@[simp] theorem m_index : kMth cl en .index es (.p (.str a)) S = (evs cl es en S).bind (mtV .index (.p (.str a))) := if_pos rfl
def jnC (c : Option Cell) (a : Str) (S : Sto) : R PV := match c with
  | some (.lst xs) => (match strsP xs with
    | some ys => if (ys.map (·.length)).sum + ys.length * a.length ≤ 16777216 then okP (.str (Txt.join a ys)) S else .no
    | none => .no)
  | _ => .no
@[simp] theorem mt_jn : mtV .join (.p (.str a)) [.loc l] S = jnC S[l]? a S := id rfl
theorem strsP_map : ∀ {ys : List Str}, strsP (ys.map PyData.str) = some ys
  | [] => rfl
  | y :: ys => by show (strsP (ys.map PyData.str)).map (y :: ·) = _; rw [strsP_map]; rfl
theorem jnC_ {ys : List Str} (h : (ys.map (·.length)).sum + ys.length * a.length ≤ 16777216) : jnC (some (.lst (ys.map .str))) a S = .ok (.p (.str (Txt.join a ys))) S := by
  unfold jnC
  dsimp only
  rw [strsP_map]
  exact if_pos h
theorem mt_ix {b : Str} {k : Nat} {r : List Nat} (h : Builtin.Str.occurrences a b 0 a.length 1 = k :: r) : mtV .index (.p (.str a)) [.p (.str b)] S = .ok (.p (.int (k : Nat))) S := by
  unfold mtV
  dsimp only
  rw [h]
  rfl
def appC (c : Option Cell) (l : Nat) (x : P) (S : Sto) : R PV := match c with
  | some (.lst xs) => if xs.length < 1000000 then .ok (.p .none) (S.set l (.lst (xs ++ [x]))) else .no
  | _ => .no
@[simp] theorem mt_app : mtV .append (.loc l) [.p x] S = appC S[l]? l x S := id rfl
@[simp] theorem appC_ (h : xs.length < 1000000) : appC (some (.lst xs)) l x S = .ok (.p .none) (S.set l (.lst (xs ++ [x]))) := if_pos h
def getC (c : Option Cell) (k d : P) (S : Sto) : R PV := match c with
  | some (.dct kvs) => (match keyP k with
    | some k => okP ((luK kvs k).getD d) S
    | none => .no)
  | _ => .no
@[simp] theorem mt_get : mtV .get2 (.loc l) [.p x, .p y] S = getC S[l]? x y S := id rfl
@[simp] theorem getC_i : getC (some (.dct kvs)) (.int i) y S = .ok (.p ((luK kvs (.inl i)).getD y)) S := id rfl
@[simp] theorem getC_s : getC (some (.dct kvs)) (.str a) y S = .ok (.p ((luK kvs (.inr a)).getD y)) S := id rfl
@[simp] theorem isi_tt : isiV .tup (.p (.tuple xs)) S = .ok true S := id rfl
@[simp] theorem isi_ti : isiV .tup (.p (.int i)) S = .ok false S := id rfl
@[simp] theorem isi_ts : isiV .tup (.p (.str a)) S = .ok false S := id rfl
@[simp] theorem isi_tb : isiV .tup (.p (.bool p)) S = .ok false S := id rfl
@[simp] theorem isi_tn : isiV .tup (.p .none) S = .ok false S := id rfl
@[simp] theorem isi_bi : isiV .bool (.p (.int i)) S = .ok false S := id rfl
@[simp] theorem isi_bs : isiV .bool (.p (.str a)) S = .ok false S := id rfl
@[simp] theorem isi_bt : isiV .bool (.p (.tuple xs)) S = .ok false S := id rfl
@[simp] theorem isi_bb : isiV .bool (.p (.bool p)) S = .ok true S := id rfl
@[simp] theorem isi_bn : isiV .bool (.p .none) S = .ok false S := id rfl
@[simp] theorem isi_ii : isiV .int (.p (.int i)) S = .ok true S := id rfl
@[simp] theorem isi_ib : isiV .int (.p (.bool p)) S = .ok true S := id rfl
@[simp] theorem isi_is : isiV .int (.p (.str a)) S = .ok false S := id rfl
@[simp] theorem isi_it : isiV .int (.p (.tuple xs)) S = .ok false S := id rfl
@[simp] theorem isi_in : isiV .int (.p .none) S = .ok false S := id rfl
@[simp] theorem isi_si : isiV .str (.p (.int i)) S = .ok false S := id rfl
@[simp] theorem isi_ss : isiV .str (.p (.str a)) S = .ok true S := id rfl
@[simp] theorem isi_st : isiV .str (.p (.tuple xs)) S = .ok false S := id rfl
@[simp] theorem isi_sn : isiV .str (.p .none) S = .ok false S := id rfl
def isC (c : Option Cell) (S : Sto) : R Bool := match c with
  | some (.lst _) => .ok true S
  | some (.dct _) => .ok false S
  | none => .no
@[simp] theorem isi_loc : isiV .lst (.loc l) S = isC S[l]? S := id rfl
@[simp] theorem isC_l : isC (some (.lst xs)) S = .ok true S := id rfl
@[simp] theorem isC_d : isC (some (.dct kvs)) S = .ok false S := id rfl
def setC (c : Option Cell) (l : Nat) (k x : P) (S : Sto) : R Unit := match c with
  | some (.lst xs) => (match k with
    | .int i => (match ixN xs.length i with
      | some j => .ok () (S.set l (.lst (xs.set j x)))
      | none => .no)
    | _ => .no)
  | some (.dct kvs) => (match keyP k with
    | some k => if kvs.length < 1000000 then .ok () (S.set l (.dct (puK kvs k x))) else .no
    | none => .no)
  | none => .no
@[simp] theorem set_loc : setV (.loc l) (.p x) (.p y) S = setC S[l]? l x y S := id rfl
@[simp] theorem setC_n {n : Nat} (h : n < xs.length) : setC (some (.lst xs)) l (.int n) y S = .ok () (S.set l (.lst (xs.set n y))) := by
  show (match ixN xs.length (n : Int) with
      | some j => (.ok () (S.set l (.lst (xs.set j y))) : R Unit)
      | none => .no) = _
  have e : ixN xs.length (n : Int) = some n := by
    unfold ixN
    simp
    omega
  rw [e]
@[simp] theorem setC_0 {x : P} : setC (some (.lst (x :: xs))) l (.int 0) y S = .ok () (S.set l (.lst (y :: xs))) := setC_n (n := 0) (by simp)
@[simp] theorem setC_1 {x z : P} : setC (some (.lst (x :: z :: xs))) l (.int 1) y S = .ok () (S.set l (.lst (x :: y :: xs))) := setC_n (n := 1) (by simp)
@[simp] theorem setC_di (h : kvs.length < 1000000) : setC (some (.dct kvs)) l (.int i) y S = .ok () (S.set l (.dct (puK kvs (.inl i) y))) := if_pos h
@[simp] theorem setC_ds (h : kvs.length < 1000000) : setC (some (.dct kvs)) l (.str a) y S = .ok () (S.set l (.dct (puK kvs (.inr a) y))) := if_pos h
end
/-! stores -/
section
variable {S l : Sto} {c d : Cell} {i k : Nat}
@[simp] theorem take_app {n : Nat} (h : S.length = n) : (S ++ l).take n = S := by subst h; simp
@[simp] theorem take_self {n : Nat} (h : S.length = n) : List.take n S = S := by subst h; simp
@[simp] theorem at_new {n : Nat} (h : S.length = n) : (S ++ l)[n]? = l[0]? := by subst h; simp [List.getElem?_append_right]
@[simp] theorem at_newk {n : Nat} (h : S.length = n) : (S ++ l)[n + k]? = l[k]? := by subst h; simp [List.getElem?_append_right]
/-- a place of the store -/
def Has (S : Sto) (i : Nat) : Prop := i < S.length
theorem has_of (h : S[i]? = some c) : Has S i := getE_lt h
@[simp] theorem has_set (h : Has S i) : Has (S.set k c) i := by unfold Has at *; simpa using h
@[simp] theorem has_app (h : Has S i) : Has (S ++ l) i := by unfold Has at *; rw [List.length_append]; omega
@[simp] theorem set_at (h : Has S i) : (S.set i c)[i]? = some c := List.getElem?_set_self h
@[simp] theorem at_old (h : Has S i) : (S ++ l)[i]? = S[i]? := List.getElem?_append_left h
@[simp] theorem set_new {n : Nat} (h : S.length = n) : (S ++ c :: l).set n d = S ++ d :: l := by subst h; simp
@[simp] theorem set_newk {n : Nat} (h : S.length = n) : (S ++ l).set (n + k) d = S ++ l.set k d := by subst h; simp
@[simp] theorem set_old (h : Has S i) : (S ++ l).set i d = S.set i d ++ l := by
  rw [List.set_append_left _ _ h]
@[simp] theorem gc_p {n : Nat} {x : P} : gc n (.p x) S = .ok (.p x) (S.take n) := by
  unfold gc
  simp [gcV]
@[simp] theorem gc_k {n : Nat} (h : S.length = n) : gc n (.loc (n + k)) (S ++ l) = .ok (.loc n) (S ++ (l[k]?).toList) := by
  subst h
  unfold gc
  have e : ¬ (S.length + k < S.length) := by omega
  simp only [gcV, if_neg e]
  have e2 : (S ++ l)[S.length + k]? = l[k]? := at_newk rfl
  simp [e2, List.filterMap_cons]
  cases l[k]? <;> rfl
@[simp] theorem gc_0 {n : Nat} (h : S.length = n) : gc n (.loc n) (S ++ l) = .ok (.loc n) (S ++ (l[0]?).toList) := gc_k (k := 0) h
theorem gc_at (h : i < S.length) : gc S.length (.loc i) (S ++ l) = .ok (.loc i) S := by
  unfold gc
  simp [gcV, h]
end
section
variable {n c : Nat} {v : PV} {S : Sto} {en : En}
@[simp] theorem end_rt : endV n (.rt v S) = gc n v S := id rfl
@[simp] theorem end_nx : endV n (.nx en S) = .ok (.p .none) (S.take n) := id rfl
@[simp] theorem end_ex : endV n (.ex c en S) = .ex c (S.take n) := id rfl
end
@[simp] theorem ix_0 {α : Type} {xs : List α} : ixP xs 0 = xs[0]? := id rfl
theorem ix_n {α : Type} {xs : List α} {n : Nat} : ixP xs (n : Int) = xs[n]? := by
  unfold ixP; rw [if_pos (by omega)]; rfl
theorem ix_mem {α : Type} {xs : List α} {k : Int} (h0 : 0 ≤ k) (h : k < xs.length) : ∃ x ∈ xs, ixP xs k = some x := by
  obtain ⟨n, rfl⟩ := Int.eq_ofNat_of_zero_le h0
  have hn : n < xs.length := by omega
  exact ⟨xs[n], List.getElem_mem hn, by rw [ix_n]; exact List.getElem?_eq_getElem hn⟩
@[simp] theorem ix_1 {α : Type} {xs : List α} : ixP xs 1 = xs[1]? := id rfl
@[simp] theorem ix_2 {α : Type} {xs : List α} : ixP xs 2 = xs[2]? := id rfl
@[simp] theorem ix_3 {α : Type} {xs : List α} : ixP xs 3 = xs[3]? := id rfl
@[simp] theorem ix_4 {α : Type} {xs : List α} : ixP xs 4 = xs[4]? := id rfl
@[simp] theorem cut_1 {α : Type} {x : α} {xs : List α} : cutP (x :: xs) (some 1) none = xs := by
  unfold cutP
  have e : HT.sIx (x :: xs).length 0 (some 1) = 1 := by
    unfold HT.sIx
    simp
  rw [e]
  simp [HT.sIx]
/-- a def's run -/
def runD (cl : Cl) (np ns : Nat) (m : Sms) : List PV → Sto → R PV := fun vs S => if vs.length = np then endV S.length (exss cl m (vs.map some ++ List.replicate (ns - np) none) S) else .no
theorem callE_run {T : Nat → Option FD} {n f np ns : Nat} {m : Sms} (h : T f = some ⟨np, ns, m⟩) : callE T (n + 1) f = runD (callE T n) np ns m := by
  funext vs S
  unfold callE runD
  rw [h]
/-! the things -/
inductive U0 | nat | none | zero
inductive U1 | next | first | second
inductive U2 | all | some | fun' | app | like | never
inductive U3 | same | carry | pair
inductive Th
  | var (n : Int) | nm (s : Str) | n0 (w : U0) | n1 (w : U1) (a : Th) | n2 (w : U2) (a b : Th) | n3 (w : U3) (a b c : Th) | rc (a b c d : Th)
@[simp] def U0.s : U0 → Str
  | .nat => "nat" | .none => "none" | .zero => "zero"
@[simp] def U1.s : U1 → Str
  | .next => "next" | .first => "first" | .second => "second"
@[simp] def U2.s : U2 → Str
  | .all => "all" | .some => "some" | .fun' => "fun" | .app => "app" | .like => "like" | .never => "never"
@[simp] def U3.s : U3 → Str
  | .same => "same" | .carry => "carry" | .pair => "pair"
def Th.e : Th → P
  | .var n => .tuple [.str "var", .int n]
  | .nm s => .tuple [.str "name", .str s]
  | .n0 w => .tuple [.str w.s]
  | .n1 w a => .tuple [.str w.s, a.e]
  | .n2 w a b => .tuple [.str w.s, a.e, b.e]
  | .n3 w a b c => .tuple [.str w.s, a.e, b.e, c.e]
  | .rc a b c d => .tuple [.str "rec", a.e, b.e, c.e, d.e]
def Th.kids : Th → List Th
  | .var _ => [] | .nm _ => [] | .n0 _ => [] | .n1 _ a => [a] | .n2 _ a b => [a, b] | .n3 _ a b c => [a, b, c] | .rc a b c d => [a, b, c, d]
def Th.binds : Th → List Nat
  | .var _ => [] | .nm _ => [] | .n0 _ => []
  | .n1 _ _ => [0]
  | .n2 .all _ _ => [0, 1] | .n2 .some _ _ => [0, 1] | .n2 .fun' _ _ => [0, 1] | .n2 _ _ _ => [0, 0]
  | .n3 .carry _ _ _ => [1, 0, 0] | .n3 _ _ _ _ => [0, 0, 0]
  | .rc _ _ _ _ => [1, 0, 0, 0]
def Th.w : Th → Str
  | .var _ => "var" | .nm _ => "name" | .n0 w => w.s | .n1 w _ => w.s | .n2 w _ _ => w.s | .n3 w _ _ _ => w.s | .rc _ _ _ _ => "rec"
def Th.as : Th → List P
  | .var n => [.int n] | .nm s => [.str s] | .n0 _ => [] | .n1 _ a => [a.e] | .n2 _ a b => [a.e, b.e] | .n3 _ a b c => [a.e, b.e, c.e] | .rc a b c d => [a.e, b.e, c.e, d.e]
theorem Th.e_eq (t : Th) : t.e = .tuple (.str t.w :: t.as) := by cases t <;> rfl
section
variable {n : Int} {s : Str} {u0 : U0} {u1 : U1} {u2 : U2} {u3 : U3} {a b c d : Th}
@[simp] theorem w_0 : (.var n : Th).w = "var" := id rfl
@[simp] theorem as_0 : (.var n : Th).as = [.int n] := id rfl
@[simp] theorem kids_0 : (.var n : Th).kids = [] := id rfl
@[simp] theorem w_1 : (.nm s : Th).w = "name" := id rfl
@[simp] theorem as_1 : (.nm s : Th).as = [.str s] := id rfl
@[simp] theorem kids_1 : (.nm s : Th).kids = [] := id rfl
@[simp] theorem w_2 : (.n0 u0 : Th).w = u0.s := id rfl
@[simp] theorem as_2 : (.n0 u0 : Th).as = [] := id rfl
@[simp] theorem kids_2 : (.n0 u0 : Th).kids = [] := id rfl
@[simp] theorem w_3 : (.n1 u1 a : Th).w = u1.s := id rfl
@[simp] theorem as_3 : (.n1 u1 a : Th).as = [a.e] := id rfl
@[simp] theorem kids_3 : (.n1 u1 a : Th).kids = [a] := id rfl
@[simp] theorem w_4 : (.n2 u2 a b : Th).w = u2.s := id rfl
@[simp] theorem as_4 : (.n2 u2 a b : Th).as = [a.e, b.e] := id rfl
@[simp] theorem kids_4 : (.n2 u2 a b : Th).kids = [a, b] := id rfl
@[simp] theorem w_5 : (.n3 u3 a b c : Th).w = u3.s := id rfl
@[simp] theorem as_5 : (.n3 u3 a b c : Th).as = [a.e, b.e, c.e] := id rfl
@[simp] theorem kids_5 : (.n3 u3 a b c : Th).kids = [a, b, c] := id rfl
@[simp] theorem w_6 : (.rc a b c d : Th).w = "rec" := id rfl
@[simp] theorem as_6 : (.rc a b c d : Th).as = [a.e, b.e, c.e, d.e] := id rfl
@[simp] theorem kids_6 : (.rc a b c d : Th).kids = [a, b, c, d] := id rfl
@[simp] theorem binds_0 : (.var n : Th).binds = [] := id rfl
@[simp] theorem binds_1 : (.nm s : Th).binds = [] := id rfl
@[simp] theorem binds_2 : (.n0 u0 : Th).binds = [] := id rfl
@[simp] theorem binds_3 : (.n1 u1 a : Th).binds = [0] := id rfl
@[simp] theorem binds_4 : (.n2 .all a b : Th).binds = [0, 1] := id rfl
@[simp] theorem binds_5 : (.n2 .some a b : Th).binds = [0, 1] := id rfl
@[simp] theorem binds_6 : (.n2 .fun' a b : Th).binds = [0, 1] := id rfl
@[simp] theorem binds_7 : (.n2 .app a b : Th).binds = [0, 0] := id rfl
@[simp] theorem binds_8 : (.n2 .like a b : Th).binds = [0, 0] := id rfl
@[simp] theorem binds_9 : (.n2 .never a b : Th).binds = [0, 0] := id rfl
@[simp] theorem binds_10 : (.n3 .carry a b c : Th).binds = [1, 0, 0] := id rfl
@[simp] theorem binds_11 : (.n3 .same a b c : Th).binds = [0, 0, 0] := id rfl
@[simp] theorem binds_12 : (.n3 .pair a b c : Th).binds = [0, 0, 0] := id rfl
@[simp] theorem binds_13 : (.rc a b c d : Th).binds = [1, 0, 0, 0] := id rfl
end
section
variable {S : Sto} {t : Th} {i : Int} {lo hi : Option Int}
@[simp] theorem e_ix : ixV (.p t.e) (.p (.int i)) S = oP (ixP (.str t.w :: t.as) i) S := by rw [Th.e_eq]; exact ix_tup
@[simp] theorem e_sl : slV (.p t.e) lo hi S = .ok (.p (.tuple (cutP (.str t.w :: t.as) lo hi))) S := by rw [Th.e_eq]; rfl
@[simp] theorem e_len : biV .len [.p t.e] S = .ok (.p (.int (t.as.length + 1))) S := by rw [Th.e_eq]; rfl
@[simp] theorem e_isi : isiV .tup (.p t.e) S = .ok true S := by rw [Th.e_eq]; rfl
@[simp] theorem e_lst : biV .lst [.p t.e] S = newC (.str t.w :: t.as) S := by rw [Th.e_eq]; rfl
end
end Kp

set_option Elab.async false
set_option linter.all false
set_option maxRecDepth 100000
set_option maxHeartbeats 0
set_option autoImplicit false
/-! the small forms of the defs. -/
namespace Kp
open PySem PySem.Spec PyProof.Rows L2
/- kids_of(thing): 0 thing -/
def m_kids_of : Sms :=
    (.cons (.ift (.or' (.cmp .eq (.ix (.v 0) (.c (.int 0))) (.c (.str "var"))) (.cmp .eq (.ix (.v 0) (.c (.int 0))) (.c (.str "name")))) (.cons (.ret (.lst .nil))
    .nil) .nil)
    (.cons (.ret (.bi .lst (.cons (.sl (.v 0) (.one (.c (.int 1))) .non) .nil)))
    .nil))
/- binds_of(thing): 0 thing -/
def m_binds_of (c_kids_of : Nat) : Sms :=
    (.cons (.ift (.cmp .inn (.ix (.v 0) (.c (.int 0))) (.tup (.cons (.c (.str "all")) (.cons (.c (.str "some")) (.cons (.c (.str "fun")) .nil))))) (.cons (.ret (.lst (.cons (.c (.int 0)) (.cons (.c (.int 1)) .nil))))
    .nil) .nil)
    (.cons (.ift (.cmp .eq (.ix (.v 0) (.c (.int 0))) (.c (.str "rec"))) (.cons (.ret (.lst (.cons (.c (.int 1)) (.cons (.c (.int 0)) (.cons (.c (.int 0)) (.cons (.c (.int 0)) .nil))))))
    .nil) .nil)
    (.cons (.ift (.cmp .eq (.ix (.v 0) (.c (.int 0))) (.c (.str "carry"))) (.cons (.ret (.lst (.cons (.c (.int 1)) (.cons (.c (.int 0)) (.cons (.c (.int 0)) .nil)))))
    .nil) .nil)
    (.cons (.ret (.bin .mul (.lst (.cons (.c (.int 0)) .nil)) (.bi .len (.cons (.call c_kids_of (.cons (.v 0) .nil)) .nil))))
    .nil))))
/- noted(thing, over, found): 0 thing, 1 over, 2 found, 3 kid, 4 bind -/
def m_noted (c_kids_of c_binds_of c_noted : Nat) : Sms :=
    (.cons (.ift (.and' (.cmp .eq (.ix (.v 0) (.c (.int 0))) (.c (.str "var"))) (.cmp .ge (.ix (.v 0) (.c (.int 1))) (.v 1))) (.cons (.setI (.v 2) (.bin .sub (.ix (.v 0) (.c (.int 1))) (.v 1)) (.bin .add (.mth .get2 (.v 2) (.cons (.bin .sub (.ix (.v 0) (.c (.int 1))) (.v 1)) (.cons (.c (.int 0)) .nil))) (.c (.int 1))))
    .nil) .nil)
    (.cons (.for' (.tp [3, 4]) (.zip (.call c_kids_of (.cons (.v 0) .nil)) (.call c_binds_of (.cons (.v 0) .nil))) (.cons (.ex (.call c_noted (.cons (.v 3) (.cons (.bin .add (.v 1) (.v 4)) (.cons (.v 2) .nil)))))
    .nil))
    .nil))
/- free_in(thing): 0 thing, 1 found -/
def m_free_in (c_noted : Nat) : Sms :=
    (.cons (.asg (.nm 1) (.dct [] .nil))
    (.cons (.ex (.call c_noted (.cons (.v 0) (.cons (.c (.int 0)) (.cons (.v 1) .nil)))))
    (.cons (.ret (.bi .sorted (.cons (.bi .lst (.cons (.v 1) .nil)) .nil)))
    .nil)))
/- _law_cell_at(_law_script, _law_k): 0 _law_script, 1 _law_k -/
def m_l_cell_at : Sms :=
    (.cons (.ift (.cmp .lt (.v 1) (.bi .len (.cons (.v 0) .nil))) (.cons (.ret (.ix (.v 0) (.v 1)))
    .nil) .nil)
    (.cons (.ret (.c (.int 0)))
    .nil))
/- _law_next(_law_state_here): 0 _law_state_here -/
def m_l_next : Sms :=
    (.cons (.setI (.v 0) (.c (.int 0)) (.bin .mod (.bin .mul (.ix (.v 0) (.c (.int 0))) (.c (.int 48271))) (.c (.int 2147483647))))
    (.cons (.setI (.v 0) (.c (.int 1)) (.bin .sub (.ix (.v 0) (.c (.int 1))) (.c (.int 1))))
    (.cons (.ret (.bin .fdiv (.ix (.v 0) (.c (.int 0))) (.c (.int 7))))
    .nil)))
/- _law_state(_law_cell, _law_most): 0 _law_cell, 1 _law_most -/
def m_l_state : Sms :=
    (.cons (.ret (.lst (.cons (.bin .add (.c (.int 1)) (.bin .mod (.v 0) (.c (.int 2147483646)))) (.cons (.bin .mod (.bin .fdiv (.v 0) (.c (.int 3))) (.bin .add (.v 1) (.c (.int 1)))) .nil))))
    .nil)
/- _law_shape(_law_word): 0 _law_word, 1 _law_shapes, 2 _law_more -/
def m_l_shape : Sms :=
    (.cons (.asg (.nm 1) (.dct ["nat", "none", "zero", "all", "some", "same", "fun", "app"] (.cons (.c (.str "")) (.cons (.c (.str "")) (.cons (.c (.str "")) (.cons (.c (.str "kk")) (.cons (.c (.str "kk")) (.cons (.c (.str "ktt")) (.cons (.c (.str "kt")) (.cons (.c (.str "tt")) .nil))))))))))
    (.cons (.asg (.nm 2) (.dct ["next", "rec", "like", "carry", "never", "pair", "first"] (.cons (.c (.str "t")) (.cons (.c (.str "kttt")) (.cons (.c (.str "kt")) (.cons (.c (.str "ktt")) (.cons (.c (.str "kt")) (.cons (.c (.str "ktt")) (.cons (.c (.str "t")) .nil)))))))))
    (.cons (.ift (.cmp .inn (.v 0) (.v 1)) (.cons (.ret (.ix (.v 1) (.v 0)))
    .nil) .nil)
    (.cons (.ift (.cmp .inn (.v 0) (.v 2)) (.cons (.ret (.ix (.v 2) (.v 0)))
    .nil) .nil)
    (.cons (.ret (.mth .get2 (.dct ["second", "var", "name"] (.cons (.c (.str "t")) (.cons (.c (.str "n")) (.cons (.c (.str "w")) .nil)))) (.cons (.v 0) (.cons (.c .none) .nil))))
    .nil)))))
/- _law_name(_law_number): 0 _law_number, 1 _law_some, 2 _law_word -/
def m_l_name : Sms :=
    (.cons (.asg (.nm 1) (.c (.str "abcdefghijklmnopqrstuvwxyzabcdefghijkl")))
    (.cons (.asg (.nm 2) (.sl (.v 1) (.one (.bin .mod (.v 0) (.c (.int 26)))) (.one (.bin .add (.bin .add (.bin .mod (.v 0) (.c (.int 26))) (.c (.int 1))) (.bin .mod (.bin .fdiv (.v 0) (.c (.int 26))) (.c (.int 12)))))))
    (.cons (.ift (.cmp .eq (.bin .mod (.bin .fdiv (.v 0) (.c (.int 312))) (.c (.int 3))) (.c (.int 1))) (.cons (.ret (.sl (.bin .add (.sl (.v 2) .non (.one (.c (.int 1)))) (.rev (.v 2))) .non (.one (.c (.int 12)))))
    .nil) .nil)
    (.cons (.ift (.cmp .eq (.bin .mod (.bin .fdiv (.v 0) (.c (.int 312))) (.c (.int 3))) (.c (.int 2))) (.cons (.ret (.sl (.bin .add (.bin .add (.c (.str "o")) (.v 2)) (.v 2)) .non (.one (.c (.int 12)))))
    .nil) .nil)
    (.cons (.ret (.v 2))
    .nil)))))
/- _law_grown(_law_state_here, _law_want, _law_left): 0 _law_state_here, 1 _law_want, 2 _law_left, 3 _law_number, 4 _law_word, 5 _law_parts, 6 _law_kind, 7 _law_words -/
def m_l_grown (c__law_shape c__law_grown c__law_name c__law_next : Nat) : Sms :=
    (.cons (.asg (.nm 3) (.call c__law_next (.cons (.v 0) .nil)))
    (.cons (.ift (.cmp .eq (.v 1) (.c (.str "k"))) (.cons (.asg (.nm 7) (.lst (.cons (.c (.str "nat")) (.cons (.c (.str "all")) (.cons (.c (.str "same")) (.cons (.c (.str "some")) (.cons (.c (.str "nat")) (.cons (.c (.str "all")) (.cons (.c (.str "none")) (.cons (.c (.str "same")) .nil))))))))))
    .nil) (.cons (.asg (.nm 7) (.lst (.cons (.c (.str "var")) (.cons (.c (.str "app")) (.cons (.c (.str "fun")) (.cons (.c (.str "next")) (.cons (.c (.str "var")) (.cons (.c (.str "rec")) (.cons (.c (.str "zero")) (.cons (.c (.str "app")) (.cons (.c (.str "like")) (.cons (.c (.str "carry")) (.cons (.c (.str "never")) (.cons (.c (.str "pair")) .nil))))))))))))))
    (.cons (.asg (.nm 7) (.bin .add (.v 7) (.lst (.cons (.c (.str "first")) (.cons (.c (.str "second")) (.cons (.c (.str "name")) (.cons (.c (.str "var")) .nil)))))))
    .nil)))
    (.cons (.ift (.or' (.cmp .le (.v 2) (.c (.int 1))) (.cmp .lt (.ix (.v 0) (.c (.int 1))) (.c (.int 0)))) (.cons (.asg (.nm 7) (.lst (.cons (.ix (.v 7) (.c (.int 0))) (.cons (.ix (.lst (.cons (.c (.str "none")) (.cons (.c (.str "zero")) .nil))) (.bi .int (.cons (.cmp .eq (.v 1) (.c (.str "t"))) .nil))) .nil))))
    .nil) .nil)
    (.cons (.asg (.nm 4) (.ix (.v 7) (.bin .mod (.v 3) (.bi .len (.cons (.v 7) .nil)))))
    (.cons (.ift (.cmp .eq (.v 4) (.c (.str "var"))) (.cons (.ift (.cmp .eq (.bin .mod (.bin .fdiv (.v 3) (.c (.int 16))) (.c (.int 9))) (.c (.int 0))) (.cons (.ret (.tup (.cons (.c (.str "var")) (.cons (.bin .mod (.bin .fdiv (.v 3) (.c (.int 144))) (.c (.int 100))) .nil))))
    .nil) .nil)
    (.cons (.ret (.tup (.cons (.c (.str "var")) (.cons (.bin .mod (.bin .fdiv (.v 3) (.c (.int 144))) (.c (.int 5))) .nil))))
    .nil)) .nil)
    (.cons (.ift (.cmp .eq (.v 4) (.c (.str "name"))) (.cons (.ret (.tup (.cons (.c (.str "name")) (.cons (.call c__law_name (.cons (.bin .fdiv (.v 3) (.c (.int 16))) .nil)) .nil))))
    .nil) .nil)
    (.cons (.asg (.nm 5) (.lst (.cons (.v 4) .nil)))
    (.cons (.for' (.nm 6) (.val (.call c__law_shape (.cons (.v 4) .nil))) (.cons (.ex (.mth .append (.v 5) (.cons (.call c__law_grown (.cons (.v 0) (.cons (.v 6) (.cons (.bin .sub (.v 2) (.c (.int 1))) .nil)))) .nil)))
    .nil))
    (.cons (.ret (.bi .tup (.cons (.v 5) .nil)))
    .nil)))))))))
/- _law_kids(_law_thing): 0 _law_thing, 1 _law_shape_here, 2 _law_k -/
def m_l_kids (c__law_shape : Nat) : Sms :=
    (.cons (.asg (.nm 1) (.call c__law_shape (.cons (.ix (.v 0) (.c (.int 0))) .nil)))
    (.cons (.ret (.comp 2 (.rng1 (.bi .len (.cons (.v 1) .nil))) (.one (.cmp .inn (.ix (.v 1) (.v 2)) (.c (.str "kt")))) (.ix (.v 0) (.bin .add (.v 2) (.c (.int 1))))))
    .nil))
/- _law_binds(_law_thing): 0 _law_thing -/
def m_l_binds (c__law_kids : Nat) : Sms :=
    (.cons (.ift (.cmp .inn (.ix (.v 0) (.c (.int 0))) (.lst (.cons (.c (.str "all")) (.cons (.c (.str "some")) (.cons (.c (.str "fun")) .nil))))) (.cons (.ret (.lst (.cons (.c (.int 0)) (.cons (.c (.int 1)) .nil))))
    .nil) .nil)
    (.cons (.ift (.cmp .inn (.ix (.v 0) (.c (.int 0))) (.lst (.cons (.c (.str "rec")) (.cons (.c (.str "carry")) .nil)))) (.cons (.ret (.bin .add (.lst (.cons (.c (.int 1)) .nil)) (.bin .mul (.lst (.cons (.c (.int 0)) .nil)) (.bin .sub (.bi .len (.cons (.v 0) .nil)) (.c (.int 2))))))
    .nil) .nil)
    (.cons (.ret (.bin .mul (.lst (.cons (.c (.int 0)) .nil)) (.bi .len (.cons (.call c__law_kids (.cons (.v 0) .nil)) .nil))))
    .nil)))
/- _law_alike(_law_told, _law_due): 0 _law_told, 1 _law_due, 2 _law_k -/
def m_l_alike (c__law_alike : Nat) : Sms :=
    (.cons (.ift (.isi (.v 1) .tup) (.cons (.ift (.or' (.not' (.isi (.v 0) .tup)) (.cmp .ne (.bi .len (.cons (.v 0) .nil)) (.bi .len (.cons (.v 1) .nil)))) (.cons (.ret (.c (.bool false)))
    .nil) .nil)
    (.cons (.ret (.cmp .eq (.comp 2 (.rng1 (.bi .len (.cons (.v 1) .nil))) (.one (.not' (.call c__law_alike (.cons (.ix (.v 0) (.v 2)) (.cons (.ix (.v 1) (.v 2)) .nil))))) (.v 2)) (.lst .nil)))
    .nil)) .nil)
    (.cons (.ret (.and' (.cmp .eq (.isi (.v 0) .bool) (.isi (.v 1) .bool)) (.cmp .eq (.v 0) (.v 1))))
    .nil))
/- _law_free(_law_thing, _law_over): 0 _law_thing, 1 _law_over, 2 _law_kids_here, 3 _law_binds_here, 4 _law_found, 5 _law_k -/
def m_l_free (c__law_free c__law_binds c__law_kids : Nat) : Sms :=
    (.cons (.ift (.cmp .eq (.ix (.v 0) (.c (.int 0))) (.c (.str "var"))) (.cons (.ret (.bin .mul (.lst (.cons (.bin .sub (.ix (.v 0) (.c (.int 1))) (.v 1)) .nil)) (.bi .int (.cons (.cmp .ge (.ix (.v 0) (.c (.int 1))) (.v 1)) .nil))))
    .nil) .nil)
    (.cons (.asg (.nm 2) (.call c__law_kids (.cons (.v 0) .nil)))
    (.cons (.asg (.nm 3) (.call c__law_binds (.cons (.v 0) .nil)))
    (.cons (.asg (.nm 4) (.lst .nil))
    (.cons (.for' (.nm 5) (.rng1 (.bi .len (.cons (.v 2) .nil))) (.cons (.asg (.nm 4) (.bin .add (.v 4) (.call c__law_free (.cons (.ix (.v 2) (.v 5)) (.cons (.bin .add (.v 1) (.ix (.v 3) (.v 5))) .nil)))))
    .nil))
    (.cons (.ret (.v 4))
    .nil))))))
/- _law_tree(_law_cell): 0 _law_cell, 1 _law_thing, 2 _law_k -/
def m_l_tree : Sms :=
    (.cons (.asg (.nm 1) (.tup (.cons (.c (.str "var")) (.cons (.bin .mod (.v 0) (.c (.int 9))) .nil))))
    (.cons (.for' (.nm 2) (.rng1 (.bin .add (.c (.int 4)) (.bin .mod (.bin .fdiv (.v 0) (.c (.int 9))) (.c (.int 5))))) (.cons (.ift (.and' (.cmp .eq (.v 2) (.c (.int 3))) (.cmp .eq (.bin .mod (.v 0) (.c (.int 2))) (.c (.int 0)))) (.cons (.asg (.nm 1) (.tup (.cons (.c (.str "fun")) (.cons (.tup (.cons (.c (.str "nat")) .nil)) (.cons (.v 1) .nil)))))
    .nil) (.cons (.asg (.nm 1) (.tup (.cons (.c (.str "app")) (.cons (.v 1) (.cons (.v 1) .nil)))))
    .nil))
    .nil))
    (.cons (.ret (.v 1))
    .nil)))
/- _law_deep(_law_cell): 0 _law_cell, 1 _law_nat, 2 _law_thing, 3 _law_deep_here, 4 _law_k, 5 _law_way, 6 _law_side -/
def m_l_deep : Sms :=
    (.cons (.asg (.nm 1) (.tup (.cons (.c (.str "nat")) .nil)))
    (.cons (.asg (.nm 2) (.tup (.cons (.c (.str "var")) (.cons (.bin .mod (.v 0) (.c (.int 45))) .nil))))
    (.cons (.asg (.nm 3) (.c (.int 1)))
    (.cons (.for' (.nm 4) (.rng1 (.c (.int 38))) (.cons (.asg (.nm 5) (.bin .mod (.bin .add (.bin .add (.bin .fdiv (.v 0) (.c (.int 7))) (.bin .mul (.v 4) (.v 4))) (.bin .fdiv (.v 4) (.c (.int 3)))) (.c (.int 6))))
    (.cons (.asg (.nm 6) (.tup (.cons (.c (.str "var")) (.cons (.bin .mod (.bin .add (.v 0) (.v 4)) (.c (.int 30))) .nil))))
    (.cons (.ift (.cmp .lt (.v 3) (.bin .add (.c (.int 20)) (.bin .mod (.bin .fdiv (.v 0) (.c (.int 45))) (.c (.int 18))))) (.cons (.asg (.nm 3) (.bin .add (.v 3) (.ix (.lst (.cons (.c (.int 1)) (.cons (.c (.int 1)) (.cons (.c (.int 2)) (.cons (.c (.int 3)) (.cons (.c (.int 2)) (.cons (.c (.int 3)) .nil))))))) (.v 5))))
    (.cons (.ift (.cmp .eq (.v 5) (.c (.int 0))) (.cons (.asg (.nm 2) (.tup (.cons (.c (.str "fun")) (.cons (.v 1) (.cons (.v 2) .nil)))))
    .nil) (.cons (.ift (.cmp .eq (.v 5) (.c (.int 1))) (.cons (.asg (.nm 2) (.tup (.cons (.c (.str "app")) (.cons (.v 6) (.cons (.v 2) .nil)))))
    .nil) (.cons (.ift (.cmp .eq (.v 5) (.c (.int 2))) (.cons (.asg (.nm 2) (.tup (.cons (.c (.str "rec")) (.cons (.tup (.cons (.c (.str "same")) (.cons (.v 1) (.cons (.v 2) (.cons (.v 6) .nil))))) (.cons (.tup (.cons (.c (.str "zero")) .nil)) (.cons (.v 6) (.cons (.tup (.cons (.c (.str "var")) (.cons (.v 4) .nil))) .nil)))))))
    .nil) (.cons (.ift (.cmp .eq (.v 5) (.c (.int 3))) (.cons (.asg (.nm 2) (.tup (.cons (.c (.str "carry")) (.cons (.tup (.cons (.c (.str "all")) (.cons (.v 1) (.cons (.tup (.cons (.c (.str "same")) (.cons (.v 1) (.cons (.v 6) (.cons (.v 2) .nil))))) .nil)))) (.cons (.v 6) (.cons (.tup (.cons (.c (.str "zero")) .nil)) .nil))))))
    .nil) (.cons (.ift (.cmp .eq (.v 5) (.c (.int 4))) (.cons (.asg (.nm 2) (.tup (.cons (.c (.str "first")) (.cons (.tup (.cons (.c (.str "fun")) (.cons (.v 1) (.cons (.v 2) .nil)))) .nil))))
    .nil) (.cons (.asg (.nm 2) (.tup (.cons (.c (.str "never")) (.cons (.tup (.cons (.c (.str "some")) (.cons (.v 1) (.cons (.tup (.cons (.c (.str "same")) (.cons (.v 1) (.cons (.v 6) (.cons (.v 2) .nil))))) .nil)))) (.cons (.v 6) .nil)))))
    .nil))
    .nil))
    .nil))
    .nil))
    .nil))
    .nil)) .nil)
    .nil))))
    (.cons (.ret (.v 2))
    .nil)))))
/- law(_law_script): 0 _law_script, 1 _law_want, 2 _law_thing, 3 _law_found, 4 _law_due, 5 _law_told, 6 _law_k -/
def m_law_v2 (c__law_alike c_free_in c__law_free c__law_cell_at c__law_deep c__law_tree c__law_grown c__law_state : Nat) : Sms :=
    (.cons (.asg (.nm 1) (.ix (.lst (.cons (.c (.str "t")) (.cons (.c (.str "k")) .nil))) (.bin .mod (.call c__law_cell_at (.cons (.v 0) (.cons (.c (.int 1)) .nil))) (.c (.int 2)))))
    (.cons (.asg (.nm 2) (.call c__law_grown (.cons (.call c__law_state (.cons (.call c__law_cell_at (.cons (.v 0) (.cons (.c (.int 0)) .nil))) (.cons (.c (.int 120)) .nil))) (.cons (.v 1) (.cons (.c (.int 10)) .nil)))))
    (.cons (.ift (.cmp .eq (.bin .mod (.bin .fdiv (.call c__law_cell_at (.cons (.v 0) (.cons (.c (.int 1)) .nil))) (.c (.int 2))) (.c (.int 6))) (.c (.int 1))) (.cons (.asg (.nm 2) (.call c__law_tree (.cons (.call c__law_cell_at (.cons (.v 0) (.cons (.c (.int 0)) .nil))) .nil)))
    .nil) .nil)
    (.cons (.ift (.cmp .eq (.bin .mod (.bin .fdiv (.call c__law_cell_at (.cons (.v 0) (.cons (.c (.int 1)) .nil))) (.c (.int 2))) (.c (.int 6))) (.c (.int 2))) (.cons (.asg (.nm 2) (.call c__law_deep (.cons (.call c__law_cell_at (.cons (.v 0) (.cons (.c (.int 0)) .nil))) .nil)))
    .nil) .nil)
    (.cons (.asg (.nm 3) (.call c__law_free (.cons (.v 2) (.cons (.c (.int 0)) .nil))))
    (.cons (.asg (.nm 4) (.comp 6 (.rng1 (.c (.int 100))) (.one (.cmp .inn (.v 6) (.v 3))) (.v 6)))
    (.cons (.asg (.nm 5) (.call c_free_in (.cons (.v 2) .nil)))
    (.cons (.ret (.and' (.isi (.v 5) .lst) (.call c__law_alike (.cons (.bi .tup (.cons (.v 5) .nil)) (.cons (.bi .tup (.cons (.v 4) .nil)) .nil)))))
    .nil))))))))
/- gone_through(thing, place, found): 0 thing, 1 place, 2 found, 3 kids, 4 number -/
def m_gone_through (c_gone_through c_kids_of : Nat) : Sms :=
    (.cons (.ex (.mth .append (.v 2) (.cons (.v 1) .nil)))
    (.cons (.asg (.nm 3) (.call c_kids_of (.cons (.v 0) .nil)))
    (.cons (.for' (.nm 4) (.rng1 (.bi .len (.cons (.v 3) .nil))) (.cons (.ex (.call c_gone_through (.cons (.ix (.v 3) (.v 4)) (.cons (.bin .add (.v 1) (.tup (.cons (.v 4) .nil))) (.cons (.v 2) .nil)))))
    .nil))
    .nil)))
/- places_of(thing): 0 thing, 1 found -/
def m_places_of (c_gone_through : Nat) : Sms :=
    (.cons (.asg (.nm 1) (.lst .nil))
    (.cons (.ex (.call c_gone_through (.cons (.v 0) (.cons (.tup .nil) (.cons (.v 1) .nil)))))
    (.cons (.ret (.v 1))
    .nil)))
/- kid_at(thing, number): 0 thing, 1 number, 2 kids -/
def m_kid_at (c_kids_of x_NoPlace : Nat) : Sms :=
    (.cons (.asg (.nm 2) (.call c_kids_of (.cons (.v 0) .nil)))
    (.cons (.ift (.or' (.cmp .lt (.v 1) (.c (.int 0))) (.cmp .ge (.v 1) (.bi .len (.cons (.v 2) .nil)))) (.cons (.raise x_NoPlace)
    .nil) .nil)
    (.cons (.ret (.ix (.v 2) (.v 1)))
    .nil)))
/- at_place(thing, place): 0 thing, 1 place, 2 number -/
def m_at_place (c_kid_at : Nat) : Sms :=
    (.cons (.for' (.nm 2) (.val (.v 1)) (.cons (.asg (.nm 0) (.call c_kid_at (.cons (.v 0) (.cons (.v 2) .nil))))
    .nil))
    (.cons (.ret (.v 0))
    .nil))
/- binders_at(thing, place): 0 thing, 1 place, 2 over, 3 number, 4 new -/
def m_binders_at (c_binds_of c_kid_at : Nat) : Sms :=
    (.cons (.asg (.nm 2) (.c (.int 0)))
    (.cons (.for' (.nm 3) (.val (.v 1)) (.cons (.asg (.nm 4) (.call c_kid_at (.cons (.v 0) (.cons (.v 3) .nil))))
    (.cons (.asg (.nm 2) (.bin .add (.v 2) (.ix (.call c_binds_of (.cons (.v 0) .nil)) (.v 3))))
    (.cons (.asg (.nm 0) (.v 4))
    .nil))))
    (.cons (.ret (.v 2))
    .nil)))
/- _law_whole(_law_told): 0 _law_told -/
def m_l_whole : Sms :=
    (.cons (.ret (.and' (.isi (.v 0) .int) (.not' (.isi (.v 0) .bool))))
    .nil)
/- _law_places(_law_thing): 0 _law_thing, 1 _law_found, 2 _law_kids_here, 3 _law_k, 4 _law_place -/
def m_l_places (c__law_places c__law_kids : Nat) : Sms :=
    (.cons (.asg (.nm 1) (.lst (.cons (.tup .nil) .nil)))
    (.cons (.asg (.nm 2) (.call c__law_kids (.cons (.v 0) .nil)))
    (.cons (.for' (.nm 3) (.rng1 (.bi .len (.cons (.v 2) .nil))) (.cons (.asg (.nm 1) (.bin .add (.v 1) (.comp 4 (.val (.call c__law_places (.cons (.ix (.v 2) (.v 3)) .nil))) .non (.bin .add (.tup (.cons (.v 3) .nil)) (.v 4)))))
    .nil))
    (.cons (.ret (.v 1))
    .nil))))
/- _law_down(_law_thing, _law_place): 0 _law_thing, 1 _law_place, 2 _law_over, 3 _law_number, 4 _law_kids_here -/
def m_l_down (c__law_binds c__law_kids : Nat) : Sms :=
    (.cons (.asg (.nm 2) (.c (.int 0)))
    (.cons (.for' (.nm 3) (.val (.v 1)) (.cons (.asg (.nm 4) (.call c__law_kids (.cons (.v 0) .nil)))
    (.cons (.ift (.or' (.cmp .lt (.v 3) (.c (.int 0))) (.cmp .ge (.v 3) (.bi .len (.cons (.v 4) .nil)))) (.cons (.ret (.c .none))
    .nil) .nil)
    (.cons (.asg (.nm 2) (.bin .add (.v 2) (.ix (.call c__law_binds (.cons (.v 0) .nil)) (.v 3))))
    (.cons (.asg (.nm 0) (.ix (.v 4) (.v 3)))
    .nil)))))
    (.cons (.ret (.tup (.cons (.v 0) (.cons (.v 2) .nil))))
    .nil)))
/- _law_refused(_law_thing, _law_place): 0 _law_thing, 1 _law_place, 2 _law_refused_here, 3 e -/
def m_l_refused (c_binders_at c_at_place : Nat) (y_KeeperError n_KeeperError y_NoPlace n_NoPlace p0 q0 p1 q1 p2 q2 : List Nat) : Sms :=
    (.cons (.asg (.nm 2) (.c (.int 0)))
    (.cons (.tryM (.cons (.ex (.call c_at_place (.cons (.v 0) (.cons (.v 1) .nil))))
    .nil) (.cons y_NoPlace n_NoPlace (.cons (.asg (.nm 2) (.bin .add (.v 2) (.c (.int 1))))
    .nil)
    .nil))
    (.cons (.tryA (.cons (.ex (.call c_binders_at (.cons (.v 0) (.cons (.v 1) .nil))))
    .nil) y_KeeperError n_KeeperError 3 (.cons (.asg (.nm 2) (.bin .add (.bin .add (.v 2) (.bi .int (.cons (.and' (.isx (.v 3) p0 q0) (.not' (.isx (.v 3) p1 q1))) .nil))) (.bi .int (.cons (.isx (.v 3) p2 q2) .nil))))
    .nil))
    (.cons (.ret (.cmp .eq (.v 2) (.c (.int 3))))
    .nil))))
/- law(_law_script): 0 _law_script, 1 _law_want, 2 _law_thing, 3 _law_places_here, 4 _law_told, 5 _law_place, 6 _law_due, 7 _law_at -/
def m_law_v3 (c__law_alike c_at_place c_binders_at c__law_refused c__law_down c__law_cell_at c_places_of c__law_places c__law_deep c__law_tree c__law_grown c__law_state : Nat) : Sms :=
    (.cons (.asg (.nm 1) (.ix (.lst (.cons (.c (.str "t")) (.cons (.c (.str "k")) .nil))) (.bin .mod (.call c__law_cell_at (.cons (.v 0) (.cons (.c (.int 1)) .nil))) (.c (.int 2)))))
    (.cons (.asg (.nm 2) (.call c__law_grown (.cons (.call c__law_state (.cons (.call c__law_cell_at (.cons (.v 0) (.cons (.c (.int 0)) .nil))) (.cons (.c (.int 60)) .nil))) (.cons (.v 1) (.cons (.c (.int 9)) .nil)))))
    (.cons (.ift (.cmp .eq (.bin .mod (.bin .fdiv (.call c__law_cell_at (.cons (.v 0) (.cons (.c (.int 1)) .nil))) (.c (.int 2))) (.c (.int 6))) (.c (.int 1))) (.cons (.asg (.nm 2) (.call c__law_tree (.cons (.call c__law_cell_at (.cons (.v 0) (.cons (.c (.int 0)) .nil))) .nil)))
    .nil) .nil)
    (.cons (.ift (.cmp .eq (.bin .mod (.bin .fdiv (.call c__law_cell_at (.cons (.v 0) (.cons (.c (.int 1)) .nil))) (.c (.int 2))) (.c (.int 6))) (.c (.int 2))) (.cons (.asg (.nm 2) (.call c__law_deep (.cons (.call c__law_cell_at (.cons (.v 0) (.cons (.c (.int 0)) .nil))) .nil)))
    .nil) .nil)
    (.cons (.asg (.nm 3) (.call c__law_places (.cons (.v 2) .nil)))
    (.cons (.asg (.nm 4) (.call c_places_of (.cons (.v 2) .nil)))
    (.cons (.ift (.or' (.not' (.isi (.v 4) .lst)) (.not' (.call c__law_alike (.cons (.bi .tup (.cons (.v 4) .nil)) (.cons (.bi .tup (.cons (.v 3) .nil)) .nil))))) (.cons (.ret (.c (.bool false)))
    .nil) .nil)
    (.cons (.asg (.nm 5) (.ix (.v 3) (.bin .mod (.call c__law_cell_at (.cons (.v 0) (.cons (.c (.int 2)) .nil))) (.bi .len (.cons (.v 3) .nil)))))
    (.cons (.ift (.cmp .eq (.bin .mod (.call c__law_cell_at (.cons (.v 0) (.cons (.c (.int 3)) .nil))) (.c (.int 2))) (.c (.int 1))) (.cons (.asg (.nm 7) (.bin .mod (.call c__law_cell_at (.cons (.v 0) (.cons (.c (.int 4)) .nil))) (.bin .add (.bi .len (.cons (.v 5) .nil)) (.c (.int 1)))))
    (.cons (.asg (.nm 5) (.bin .add (.bin .add (.sl (.v 5) .non (.one (.v 7))) (.tup (.cons (.bin .sub (.bin .mod (.call c__law_cell_at (.cons (.v 0) (.cons (.c (.int 5)) .nil))) (.c (.int 8))) (.c (.int 2))) .nil))) (.sl (.v 5) (.one (.v 7)) .non)))
    .nil)) .nil)
    (.cons (.asg (.nm 6) (.call c__law_down (.cons (.v 2) (.cons (.v 5) .nil))))
    (.cons (.ift (.cmp .is (.v 6) (.c .none)) (.cons (.ret (.call c__law_refused (.cons (.v 2) (.cons (.v 5) .nil))))
    .nil) .nil)
    (.cons (.ret (.and' (.call c__law_alike (.cons (.call c_at_place (.cons (.v 2) (.cons (.v 5) .nil))) (.cons (.ix (.v 6) (.c (.int 0))) .nil))) (.call c__law_alike (.cons (.call c_binders_at (.cons (.v 2) (.cons (.v 5) .nil))) (.cons (.ix (.v 6) (.c (.int 1))) .nil)))))
    .nil))))))))))))
/- made_plain(thing, kids): 0 thing, 1 kids -/
def m_made_plain : Sms :=
    (.cons (.ift (.not' (.v 1)) (.cons (.ret (.v 0))
    .nil) .nil)
    (.cons (.ret (.bin .add (.tup (.cons (.ix (.v 0) (.c (.int 0))) .nil)) (.bi .tup (.cons (.v 1) .nil))))
    .nil))
/- size_of(thing): 0 thing, 1 total, 2 kid -/
def m_size_of (c_kids_of c_size_of : Nat) : Sms :=
    (.cons (.asg (.nm 1) (.c (.int 1)))
    (.cons (.for' (.nm 2) (.val (.call c_kids_of (.cons (.v 0) .nil))) (.cons (.asg (.nm 1) (.bin .add (.v 1) (.call c_size_of (.cons (.v 2) .nil))))
    .nil))
    (.cons (.ret (.v 1))
    .nil)))
/- depth_of(thing): 0 thing, 1 kid -/
def m_depth_of (c_kids_of c_depth_of : Nat) : Sms :=
    (.cons (.ret (.bin .add (.c (.int 1)) (.bi .maxd (.cons (.comp 1 (.val (.call c_kids_of (.cons (.v 0) .nil))) .non (.call c_depth_of (.cons (.v 1) .nil))) (.cons (.c (.int 0)) .nil)))))
    .nil)
/- greatest_of(thing): 0 thing, 1 kid -/
def m_greatest_of (c_kids_of c_greatest_of : Nat) : Sms :=
    (.cons (.ift (.cmp .eq (.ix (.v 0) (.c (.int 0))) (.c (.str "var"))) (.cons (.ret (.ix (.v 0) (.c (.int 1))))
    .nil) .nil)
    (.cons (.ret (.bi .maxd (.cons (.comp 1 (.val (.call c_kids_of (.cons (.v 0) .nil))) .non (.call c_greatest_of (.cons (.v 1) .nil))) (.cons (.neg (.c (.int 1))) .nil))))
    .nil))
/- bounded(thing): 0 thing -/
def m_bounded (c_size_of c_depth_of c_greatest_of x_Great : Nat) : Sms :=
    (.cons (.ift (.or' (.cmp .gt (.call c_size_of (.cons (.v 0) .nil)) (.c (.int 600))) (.or' (.cmp .gt (.call c_depth_of (.cons (.v 0) .nil)) (.c (.int 40))) (.cmp .gt (.call c_greatest_of (.cons (.v 0) .nil)) (.c (.int 99))))) (.cons (.raise x_Great)
    .nil) .nil)
    (.cons (.ret (.v 0))
    .nil))
/- moved(thing, by, low): 0 thing, 1 by, 2 low, 3 kids, 4 kid, 5 bind -/
def m_moved (c_made_plain c_kids_of c_binds_of c_moved : Nat) : Sms :=
    (.cons (.ift (.cmp .eq (.ix (.v 0) (.c (.int 0))) (.c (.str "var"))) (.cons (.ift (.cmp .ge (.ix (.v 0) (.c (.int 1))) (.v 2)) (.cons (.ret (.tup (.cons (.c (.str "var")) (.cons (.bin .add (.ix (.v 0) (.c (.int 1))) (.v 1)) .nil))))
    .nil) .nil)
    (.cons (.ret (.v 0))
    .nil)) .nil)
    (.cons (.asg (.nm 3) (.lst .nil))
    (.cons (.for' (.tp [4, 5]) (.zip (.call c_kids_of (.cons (.v 0) .nil)) (.call c_binds_of (.cons (.v 0) .nil))) (.cons (.ex (.mth .append (.v 3) (.cons (.call c_moved (.cons (.v 4) (.cons (.v 1) (.cons (.bin .add (.v 2) (.v 5)) .nil)))) .nil)))
    .nil))
    (.cons (.ret (.call c_made_plain (.cons (.v 0) (.cons (.v 3) .nil))))
    .nil))))
/- lifted(thing, by, low): 0 thing, 1 by, 2 low -/
def m_lifted (c_bounded c_moved : Nat) : Sms :=
    (.cons (.ret (.call c_bounded (.cons (.call c_moved (.cons (.v 0) (.cons (.v 1) (.cons (.v 2) .nil)))) .nil)))
    .nil)
/- placed(thing, other, at, over): 0 thing, 1 other, 2 at, 3 over, 4 kids, 5 kid, 6 bind -/
def m_placed (c_made_plain c_kids_of c_binds_of c_placed c_moved : Nat) : Sms :=
    (.cons (.ift (.cmp .eq (.ix (.v 0) (.c (.int 0))) (.c (.str "var"))) (.cons (.ift (.cmp .eq (.ix (.v 0) (.c (.int 1))) (.bin .add (.v 2) (.v 3))) (.cons (.ret (.call c_moved (.cons (.v 1) (.cons (.v 3) (.cons (.c (.int 0)) .nil)))))
    .nil) .nil)
    (.cons (.ift (.cmp .gt (.ix (.v 0) (.c (.int 1))) (.bin .add (.v 2) (.v 3))) (.cons (.ret (.tup (.cons (.c (.str "var")) (.cons (.bin .sub (.ix (.v 0) (.c (.int 1))) (.c (.int 1))) .nil))))
    .nil) .nil)
    (.cons (.ret (.v 0))
    .nil))) .nil)
    (.cons (.asg (.nm 4) (.lst .nil))
    (.cons (.for' (.tp [5, 6]) (.zip (.call c_kids_of (.cons (.v 0) .nil)) (.call c_binds_of (.cons (.v 0) .nil))) (.cons (.ex (.mth .append (.v 4) (.cons (.call c_placed (.cons (.v 5) (.cons (.v 1) (.cons (.v 2) (.cons (.bin .add (.v 3) (.v 6)) .nil))))) .nil)))
    .nil))
    (.cons (.ret (.call c_made_plain (.cons (.v 0) (.cons (.v 4) .nil))))
    .nil))))
/- put_in(thing, other, at): 0 thing, 1 other, 2 at, 3 found -/
def m_put_in (c_bounded c_placed c_size_of c_noted x_Great : Nat) : Sms :=
    (.cons (.asg (.nm 3) (.dct [] .nil))
    (.cons (.ex (.call c_noted (.cons (.v 0) (.cons (.c (.int 0)) (.cons (.v 3) .nil)))))
    (.cons (.ift (.cmp .gt (.bin .add (.call c_size_of (.cons (.v 0) .nil)) (.bin .mul (.mth .get2 (.v 3) (.cons (.v 2) (.cons (.c (.int 0)) .nil))) (.bin .sub (.call c_size_of (.cons (.v 1) .nil)) (.c (.int 1))))) (.c (.int 600))) (.cons (.raise x_Great)
    .nil) .nil)
    (.cons (.ret (.call c_bounded (.cons (.call c_placed (.cons (.v 0) (.cons (.v 1) (.cons (.v 2) (.cons (.c (.int 0)) .nil))))) .nil)))
    .nil))))
/- _law_twice(_law_thing, _law_one, _law_other, _law_low, _law_high): 0 _law_thing, 1 _law_one, 2 _law_other, 3 _law_low, 4 _law_high, 5 _law_first, 6 _law_behind -/
def m_l_twice (c__law_alike c_put_in c_lifted : Nat) : Sms :=
    (.cons (.asg (.nm 5) (.call c_lifted (.cons (.call c_lifted (.cons (.v 0) (.cons (.c (.int 1)) (.cons (.v 4) .nil)))) (.cons (.c (.int 1)) (.cons (.v 3) .nil)))))
    (.cons (.ift (.not' (.call c__law_alike (.cons (.v 5) (.cons (.call c_lifted (.cons (.call c_lifted (.cons (.v 0) (.cons (.c (.int 1)) (.cons (.v 3) .nil)))) (.cons (.c (.int 1)) (.cons (.bin .add (.v 4) (.c (.int 1))) .nil)))) .nil)))) (.cons (.ret (.c (.bool false)))
    .nil) .nil)
    (.cons (.asg (.nm 5) (.call c_put_in (.cons (.call c_put_in (.cons (.v 0) (.cons (.v 1) (.cons (.v 3) .nil)))) (.cons (.v 2) (.cons (.v 4) .nil)))))
    (.cons (.asg (.nm 6) (.call c_put_in (.cons (.v 0) (.cons (.call c_lifted (.cons (.v 2) (.cons (.c (.int 1)) (.cons (.v 3) .nil)))) (.cons (.bin .add (.v 4) (.c (.int 1))) .nil)))))
    (.cons (.ift (.not' (.call c__law_alike (.cons (.v 5) (.cons (.call c_put_in (.cons (.v 6) (.cons (.call c_put_in (.cons (.v 1) (.cons (.v 2) (.cons (.v 4) .nil)))) (.cons (.v 3) .nil)))) .nil)))) (.cons (.ret (.c (.bool false)))
    .nil) .nil)
    (.cons (.asg (.nm 5) (.call c_lifted (.cons (.call c_put_in (.cons (.v 0) (.cons (.v 1) (.cons (.v 3) .nil)))) (.cons (.c (.int 1)) (.cons (.v 4) .nil)))))
    (.cons (.ret (.call c__law_alike (.cons (.v 5) (.cons (.call c_put_in (.cons (.call c_lifted (.cons (.v 0) (.cons (.c (.int 1)) (.cons (.bin .add (.v 4) (.c (.int 1))) .nil)))) (.cons (.call c_lifted (.cons (.v 1) (.cons (.c (.int 1)) (.cons (.v 4) .nil)))) (.cons (.v 3) .nil)))) .nil))))
    .nil)))))))
/- law(_law_script): 0 _law_script, 1 _law_want, 2 _law_thing, 3 _law_one, 4 _law_other, 5 _law_low, 6 _law_high, 7 _law_up -/
def m_law_v4 (c__law_twice c_free_in c__law_alike c_put_in c_lifted c__law_cell_at c__law_grown c__law_state c__law_deep : Nat) (y_Great n_Great : List Nat) : Sms :=
    (.cons (.asg (.nm 1) (.ix (.lst (.cons (.c (.str "t")) (.cons (.c (.str "k")) .nil))) (.bin .mod (.call c__law_cell_at (.cons (.v 0) (.cons (.c (.int 1)) .nil))) (.c (.int 2)))))
    (.cons (.asg (.nm 2) (.call c__law_grown (.cons (.call c__law_state (.cons (.call c__law_cell_at (.cons (.v 0) (.cons (.c (.int 0)) .nil))) (.cons (.c (.int 40)) .nil))) (.cons (.v 1) (.cons (.c (.int 7)) .nil)))))
    (.cons (.ift (.cmp .eq (.bin .mod (.bin .fdiv (.call c__law_cell_at (.cons (.v 0) (.cons (.c (.int 1)) .nil))) (.c (.int 2))) (.c (.int 6))) (.c (.int 2))) (.cons (.asg (.nm 2) (.call c__law_deep (.cons (.call c__law_cell_at (.cons (.v 0) (.cons (.c (.int 0)) .nil))) .nil)))
    .nil) .nil)
    (.cons (.asg (.nm 3) (.call c__law_grown (.cons (.call c__law_state (.cons (.call c__law_cell_at (.cons (.v 0) (.cons (.c (.int 2)) .nil))) (.cons (.c (.int 12)) .nil))) (.cons (.c (.str "t")) (.cons (.c (.int 4)) .nil)))))
    (.cons (.asg (.nm 4) (.call c__law_grown (.cons (.call c__law_state (.cons (.call c__law_cell_at (.cons (.v 0) (.cons (.c (.int 3)) .nil))) (.cons (.c (.int 12)) .nil))) (.cons (.c (.str "t")) (.cons (.c (.int 4)) .nil)))))
    (.cons (.asg (.nm 5) (.bin .mod (.call c__law_cell_at (.cons (.v 0) (.cons (.c (.int 4)) .nil))) (.c (.int 5))))
    (.cons (.asg (.nm 6) (.bin .add (.v 5) (.bin .mod (.call c__law_cell_at (.cons (.v 0) (.cons (.c (.int 5)) .nil))) (.bin .sub (.c (.int 5)) (.v 5)))))
    (.cons (.tryM (.cons (.asg (.nm 7) (.call c_lifted (.cons (.v 2) (.cons (.c (.int 1)) (.cons (.v 5) .nil)))))
    (.cons (.ift (.or' (.cmp .inn (.v 5) (.call c_free_in (.cons (.v 7) .nil))) (.not' (.call c__law_alike (.cons (.call c_put_in (.cons (.v 7) (.cons (.v 3) (.cons (.v 5) .nil)))) (.cons (.v 2) .nil))))) (.cons (.ret (.c (.bool false)))
    .nil) .nil)
    (.cons (.ret (.call c__law_twice (.cons (.v 2) (.cons (.v 3) (.cons (.v 4) (.cons (.v 5) (.cons (.v 6) .nil)))))))
    .nil))) (.cons y_Great n_Great (.cons (.ret (.c (.bool true)))
    .nil)
    .nil))
    .nil))))))))
/- rule_of(thing, book): 0 thing, 1 book, 2 word -/
def m_rule_of : Sms :=
    (.cons (.asg (.nm 2) (.ix (.v 0) (.c (.int 0))))
    (.cons (.ift (.and' (.cmp .eq (.v 2) (.c (.str "app"))) (.cmp .eq (.ix (.ix (.v 0) (.c (.int 1))) (.c (.int 0))) (.c (.str "fun")))) (.cons (.ret (.c (.str "fun")))
    .nil) .nil)
    (.cons (.ift (.and' (.cmp .eq (.v 2) (.c (.str "rec"))) (.cmp .inn (.ix (.ix (.v 0) (.c (.int 4))) (.c (.int 0))) (.tup (.cons (.c (.str "zero")) (.cons (.c (.str "next")) .nil))))) (.cons (.ret (.ix (.ix (.v 0) (.c (.int 4))) (.c (.int 0))))
    .nil) .nil)
    (.cons (.ift (.and' (.cmp .eq (.v 2) (.c (.str "carry"))) (.cmp .eq (.ix (.ix (.v 0) (.c (.int 3))) (.c (.int 0))) (.c (.str "like")))) (.cons (.ret (.c (.str "like")))
    .nil) .nil)
    (.cons (.ift (.and' (.cmp .inn (.v 2) (.tup (.cons (.c (.str "first")) (.cons (.c (.str "second")) .nil)))) (.cmp .eq (.ix (.ix (.v 0) (.c (.int 1))) (.c (.int 0))) (.c (.str "pair")))) (.cons (.ret (.v 2))
    .nil) .nil)
    (.cons (.ift (.and' (.cmp .eq (.v 2) (.c (.str "name"))) (.cmp .inn (.ix (.v 0) (.c (.int 1))) (.v 1))) (.cons (.ret (.c (.str "name")))
    .nil) .nil)
    (.cons (.ret (.c .none))
    .nil)))))))
/- _law_draw(_law_script, _law_tape, _law_many): 0 _law_script, 1 _law_tape, 2 _law_many, 3 _law_seed, 4 _law_cell -/
def m_l_draw : Sms :=
    (.cons (.setI (.v 1) (.c (.int 0)) (.bin .add (.ix (.v 1) (.c (.int 0))) (.c (.int 1))))
    (.cons (.ift (.cmp .le (.ix (.v 1) (.c (.int 0))) (.bi .len (.cons (.v 0) .nil))) (.cons (.ret (.bin .mod (.ix (.v 0) (.bin .sub (.ix (.v 1) (.c (.int 0))) (.c (.int 1)))) (.v 2)))
    .nil) .nil)
    (.cons (.asg (.nm 3) (.bi .len (.cons (.v 0) .nil)))
    (.cons (.for' (.nm 4) (.val (.sl (.v 0) .non (.one (.c (.int 4))))) (.cons (.asg (.nm 3) (.bin .mod (.bin .add (.bin .mul (.v 3) (.c (.int 131))) (.v 4)) (.c (.int 1000003))))
    .nil))
    (.cons (.ret (.bin .mod (.bin .mod (.bin .mul (.bin .add (.v 3) (.c (.int 7))) (.bin .add (.bin .mul (.ix (.v 1) (.c (.int 0))) (.ix (.v 1) (.c (.int 0)))) (.c (.int 48271)))) (.c (.int 1000003))) (.v 2)))
    .nil)))))
/- _law_named(_law_word): 0 _law_word -/
def m_l_named : Sms :=
    (.cons (.ift (.cmp .inn (.v 0) (.tup (.cons (.c (.str "nat")) (.cons (.c (.str "none")) (.cons (.c (.str "all")) (.cons (.c (.str "some")) (.cons (.c (.str "same")) (.cons (.c (.str "var")) (.cons (.c (.str "fun")) (.cons (.c (.str "app")) (.cons (.c (.str "zero")) (.cons (.c (.str "next")) (.cons (.c (.str "rec")) (.cons (.c (.str "like")) (.cons (.c (.str "carry")) .nil))))))))))))))) (.cons (.ret (.bin .add (.sl (.v 0) .non (.one (.neg (.c (.int 1))))) (.c (.str "q"))))
    .nil) .nil)
    (.cons (.ift (.cmp .inn (.v 0) (.tup (.cons (.c (.str "never")) (.cons (.c (.str "pair")) (.cons (.c (.str "first")) (.cons (.c (.str "second")) (.cons (.c (.str "name")) .nil))))))) (.cons (.ret (.bin .add (.sl (.v 0) .non (.one (.neg (.c (.int 1))))) (.c (.str "q"))))
    .nil) .nil)
    (.cons (.ret (.v 0))
    .nil)))
/- _law_pool(_law_script, _law_tape): 0 _law_script, 1 _law_tape, 2 _law_letters, 3 _law_cell, 4 _law_size, 5 _law_word, 6 _law_at, 7 _law_other, 8 _law_words, 9 _law_one, 10 _law_k -/
def m_l_pool (c__law_named c__law_draw : Nat) : Sms :=
    (.cons (.asg (.nm 2) (.c (.str "abcdefghijklmnopqrstuvwxyz")))
    (.cons (.asg (.nm 3) (.call c__law_draw (.cons (.v 0) (.cons (.v 1) (.cons (.bin .pow (.c (.int 10)) (.c (.int 9))) .nil)))))
    (.cons (.asg (.nm 4) (.bin .add (.c (.int 1)) (.call c__law_draw (.cons (.v 0) (.cons (.v 1) (.cons (.c (.int 12)) .nil))))))
    (.cons (.asg (.nm 5) (.mth .join (.c (.str "")) (.cons (.comp 10 (.rng1 (.v 4)) .non (.ix (.v 2) (.bin .mod (.bin .add (.bin .fdiv (.v 3) (.bin .add (.v 10) (.c (.int 1)))) (.bin .mul (.c (.int 5)) (.v 10))) (.c (.int 26))))) .nil)))
    (.cons (.asg (.nm 6) (.call c__law_draw (.cons (.v 0) (.cons (.v 1) (.cons (.v 4) .nil)))))
    (.cons (.asg (.nm 7) (.ix (.v 2) (.bin .mod (.bin .add (.bin .add (.mth .index (.v 2) (.cons (.ix (.v 5) (.v 6)) .nil)) (.c (.int 1))) (.call c__law_draw (.cons (.v 0) (.cons (.v 1) (.cons (.c (.int 25)) .nil))))) (.c (.int 26)))))
    (.cons (.asg (.nm 8) (.lst (.cons (.v 5) (.cons (.bin .add (.bin .add (.sl (.v 5) .non (.one (.v 6))) (.v 7)) (.sl (.v 5) (.one (.bin .add (.v 6) (.c (.int 1)))) .non)) (.cons (.sl (.bin .add (.v 7) (.v 5)) .non (.one (.c (.int 12)))) .nil)))))
    (.cons (.ret (.comp 9 (.val (.v 8)) .non (.call c__law_named (.cons (.v 9) .nil))))
    .nil))))))))
/- _law_leaf(_law_script, _law_tape, _law_near, _law_pool_here): 0 _law_script, 1 _law_tape, 2 _law_near, 3 _law_pool_here, 4 _law_way -/
def m_l_leaf (c__law_draw : Nat) : Sms :=
    (.cons (.asg (.nm 4) (.call c__law_draw (.cons (.v 0) (.cons (.v 1) (.cons (.c (.int 6)) .nil)))))
    (.cons (.ift (.cmp .eq (.v 4) (.c (.int 0))) (.cons (.ret (.tup (.cons (.c (.str "zero")) .nil)))
    .nil) .nil)
    (.cons (.ift (.cmp .eq (.v 4) (.c (.int 1))) (.cons (.ret (.tup (.cons (.c (.str "name")) (.cons (.ix (.v 3) (.call c__law_draw (.cons (.v 0) (.cons (.v 1) (.cons (.c (.int 3)) .nil))))) .nil))))
    .nil) .nil)
    (.cons (.ift (.cmp .eq (.v 2) (.c (.int 0))) (.cons (.ret (.tup (.cons (.c (.str "next")) (.cons (.tup (.cons (.c (.str "zero")) .nil)) .nil))))
    .nil) .nil)
    (.cons (.ift (.cmp .eq (.v 4) (.c (.int 2))) (.cons (.ret (.tup (.cons (.c (.str "var")) (.cons (.call c__law_draw (.cons (.v 0) (.cons (.v 1) (.cons (.v 2) .nil)))) .nil))))
    .nil) .nil)
    (.cons (.ret (.tup (.cons (.c (.str "var")) (.cons (.call c__law_draw (.cons (.v 0) (.cons (.v 1) (.cons (.bi .min2 (.cons (.v 2) (.cons (.c (.int 3)) .nil))) .nil)))) .nil))))
    .nil))))))
/- _law_kind(_law_script, _law_tape, _law_deep, _law_near, _law_pool_here): 0 _law_script, 1 _law_tape, 2 _law_deep, 3 _law_near, 4 _law_pool_here, 5 _law_way, 6 _law_first, 7 _law_kind_here -/
def m_l_kind (c__law_term c__law_kind c__law_draw : Nat) : Sms :=
    (.cons (.asg (.nm 5) (.call c__law_draw (.cons (.v 0) (.cons (.v 1) (.cons (.c (.int 7)) .nil)))))
    (.cons (.ift (.or' (.cmp .lt (.v 2) (.c (.int 1))) (.cmp .lt (.v 5) (.c (.int 3)))) (.cons (.ret (.ix (.lst (.cons (.tup (.cons (.c (.str "nat")) .nil)) (.cons (.tup (.cons (.c (.str "nat")) .nil)) (.cons (.tup (.cons (.c (.str "none")) .nil)) .nil)))) (.bin .mod (.v 5) (.c (.int 3)))))
    .nil) .nil)
    (.cons (.ift (.cmp .lt (.v 5) (.c (.int 5))) (.cons (.asg (.nm 6) (.call c__law_kind (.cons (.v 0) (.cons (.v 1) (.cons (.bin .sub (.v 2) (.c (.int 1))) (.cons (.v 3) (.cons (.v 4) .nil)))))))
    (.cons (.ret (.tup (.cons (.ix (.lst (.cons (.c (.str "all")) (.cons (.c (.str "some")) .nil))) (.bin .sub (.v 5) (.c (.int 3)))) (.cons (.v 6) (.cons (.call c__law_kind (.cons (.v 0) (.cons (.v 1) (.cons (.bin .sub (.v 2) (.c (.int 1))) (.cons (.bin .add (.v 3) (.c (.int 1))) (.cons (.v 4) .nil)))))) .nil)))))
    .nil)) .nil)
    (.cons (.asg (.nm 6) (.call c__law_term (.cons (.v 0) (.cons (.v 1) (.cons (.bin .sub (.v 2) (.c (.int 1))) (.cons (.v 3) (.cons (.v 4) .nil)))))))
    (.cons (.asg (.nm 7) (.call c__law_kind (.cons (.v 0) (.cons (.v 1) (.cons (.bin .sub (.v 2) (.c (.int 2))) (.cons (.v 3) (.cons (.v 4) .nil)))))))
    (.cons (.ret (.tup (.cons (.c (.str "same")) (.cons (.v 7) (.cons (.v 6) (.cons (.call c__law_term (.cons (.v 0) (.cons (.v 1) (.cons (.bin .sub (.v 2) (.c (.int 1))) (.cons (.v 3) (.cons (.v 4) .nil)))))) .nil))))))
    .nil))))))
/- _law_fun(_law_script, _law_tape, _law_deep, _law_near, _law_pool_here): 0 _law_script, 1 _law_tape, 2 _law_deep, 3 _law_near, 4 _law_pool_here, 5 _law_kind_here -/
def m_l_fun (c__law_term c__law_kind : Nat) : Sms :=
    (.cons (.asg (.nm 5) (.call c__law_kind (.cons (.v 0) (.cons (.v 1) (.cons (.bin .sub (.v 2) (.c (.int 2))) (.cons (.v 3) (.cons (.v 4) .nil)))))))
    (.cons (.ret (.tup (.cons (.c (.str "fun")) (.cons (.v 5) (.cons (.call c__law_term (.cons (.v 0) (.cons (.v 1) (.cons (.bin .sub (.v 2) (.c (.int 1))) (.cons (.bin .add (.v 3) (.c (.int 1))) (.cons (.v 4) .nil)))))) .nil)))))
    .nil))
/- _law_pair(_law_script, _law_tape, _law_deep, _law_near, _law_pool_here): 0 _law_script, 1 _law_tape, 2 _law_deep, 3 _law_near, 4 _law_pool_here, 5 _law_kind_here, 6 _law_first -/
def m_l_pair (c__law_term c__law_kind : Nat) : Sms :=
    (.cons (.asg (.nm 5) (.call c__law_kind (.cons (.v 0) (.cons (.v 1) (.cons (.bin .sub (.v 2) (.c (.int 2))) (.cons (.v 3) (.cons (.v 4) .nil)))))))
    (.cons (.asg (.nm 6) (.call c__law_term (.cons (.v 0) (.cons (.v 1) (.cons (.bin .sub (.v 2) (.c (.int 1))) (.cons (.v 3) (.cons (.v 4) .nil)))))))
    (.cons (.ret (.tup (.cons (.c (.str "pair")) (.cons (.v 5) (.cons (.v 6) (.cons (.call c__law_term (.cons (.v 0) (.cons (.v 1) (.cons (.bin .sub (.v 2) (.c (.int 1))) (.cons (.v 3) (.cons (.v 4) .nil)))))) .nil))))))
    .nil)))
/- _law_like(_law_script, _law_tape, _law_deep, _law_near, _law_pool_here): 0 _law_script, 1 _law_tape, 2 _law_deep, 3 _law_near, 4 _law_pool_here, 5 _law_kind_here -/
def m_l_like (c__law_term c__law_kind : Nat) : Sms :=
    (.cons (.asg (.nm 5) (.call c__law_kind (.cons (.v 0) (.cons (.v 1) (.cons (.bin .sub (.v 2) (.c (.int 2))) (.cons (.v 3) (.cons (.v 4) .nil)))))))
    (.cons (.ret (.tup (.cons (.c (.str "like")) (.cons (.v 5) (.cons (.call c__law_term (.cons (.v 0) (.cons (.v 1) (.cons (.bin .sub (.v 2) (.c (.int 1))) (.cons (.v 3) (.cons (.v 4) .nil)))))) .nil)))))
    .nil))
/- _law_number(_law_script, _law_tape, _law_deep, _law_near, _law_pool_here): 0 _law_script, 1 _law_tape, 2 _law_deep, 3 _law_near, 4 _law_pool_here -/
def m_l_number (c__law_term c__law_draw : Nat) : Sms :=
    (.cons (.ift (.cmp .eq (.call c__law_draw (.cons (.v 0) (.cons (.v 1) (.cons (.c (.int 3)) .nil)))) (.c (.int 0))) (.cons (.ret (.tup (.cons (.c (.str "zero")) .nil)))
    .nil) .nil)
    (.cons (.ret (.tup (.cons (.c (.str "next")) (.cons (.call c__law_term (.cons (.v 0) (.cons (.v 1) (.cons (.bin .sub (.v 2) (.c (.int 1))) (.cons (.v 3) (.cons (.v 4) .nil)))))) .nil))))
    .nil))
/- _law_parted(_law_script, _law_tape, _law_deep, _law_near, _law_pool_here, _law_way): 0 _law_script, 1 _law_tape, 2 _law_deep, 3 _law_near, 4 _law_pool_here, 5 _law_way, 6 _law_kind_here, 7 _law_first, 8 _law_second, 9 _law_word -/
def m_l_parted (c__law_number c__law_term c__law_like c__law_kind c__law_pair c__law_draw c__law_fun : Nat) : Sms :=
    (.cons (.ift (.cmp .eq (.v 5) (.c (.int 0))) (.cons (.ret (.tup (.cons (.c (.str "app")) (.cons (.call c__law_fun (.cons (.v 0) (.cons (.v 1) (.cons (.v 2) (.cons (.v 3) (.cons (.v 4) .nil)))))) (.cons (.call c__law_term (.cons (.v 0) (.cons (.v 1) (.cons (.bin .sub (.v 2) (.c (.int 1))) (.cons (.v 3) (.cons (.v 4) .nil)))))) .nil)))))
    .nil) .nil)
    (.cons (.ift (.cmp .eq (.v 5) (.c (.int 1))) (.cons (.asg (.nm 9) (.ix (.lst (.cons (.c (.str "first")) (.cons (.c (.str "second")) .nil))) (.call c__law_draw (.cons (.v 0) (.cons (.v 1) (.cons (.c (.int 2)) .nil))))))
    (.cons (.ret (.tup (.cons (.v 9) (.cons (.call c__law_pair (.cons (.v 0) (.cons (.v 1) (.cons (.v 2) (.cons (.v 3) (.cons (.v 4) .nil)))))) .nil))))
    .nil)) .nil)
    (.cons (.asg (.nm 6) (.call c__law_kind (.cons (.v 0) (.cons (.v 1) (.cons (.bin .sub (.v 2) (.c (.int 2))) (.cons (.bin .add (.v 3) (.c (.int 1))) (.cons (.v 4) .nil)))))))
    (.cons (.asg (.nm 7) (.call c__law_term (.cons (.v 0) (.cons (.v 1) (.cons (.bin .sub (.v 2) (.c (.int 1))) (.cons (.v 3) (.cons (.v 4) .nil)))))))
    (.cons (.ift (.cmp .eq (.v 5) (.c (.int 2))) (.cons (.ret (.tup (.cons (.c (.str "carry")) (.cons (.v 6) (.cons (.v 7) (.cons (.call c__law_like (.cons (.v 0) (.cons (.v 1) (.cons (.v 2) (.cons (.v 3) (.cons (.v 4) .nil)))))) .nil))))))
    .nil) .nil)
    (.cons (.asg (.nm 8) (.call c__law_term (.cons (.v 0) (.cons (.v 1) (.cons (.bin .sub (.v 2) (.c (.int 1))) (.cons (.v 3) (.cons (.v 4) .nil)))))))
    (.cons (.ret (.tup (.cons (.c (.str "rec")) (.cons (.v 6) (.cons (.v 7) (.cons (.v 8) (.cons (.call c__law_number (.cons (.v 0) (.cons (.v 1) (.cons (.v 2) (.cons (.v 3) (.cons (.v 4) .nil)))))) .nil)))))))
    .nil)))))))
/- _law_still(_law_script, _law_tape, _law_deep, _law_near, _law_pool_here, _law_way): 0 _law_script, 1 _law_tape, 2 _law_deep, 3 _law_near, 4 _law_pool_here, 5 _law_way, 6 _law_one, 7 _law_two, 8 _law_three -/
def m_l_still (c__law_kind c__law_term c__law_draw c__law_like c__law_pair c__law_fun : Nat) : Sms :=
    (.cons (.ift (.cmp .lt (.v 5) (.c (.int 2))) (.cons (.ret (.tup (.cons (.c (.str "next")) (.cons (.call c__law_term (.cons (.v 0) (.cons (.v 1) (.cons (.bin .sub (.v 2) (.c (.int 1))) (.cons (.v 3) (.cons (.v 4) .nil)))))) .nil))))
    .nil) .nil)
    (.cons (.ift (.cmp .eq (.v 5) (.c (.int 2))) (.cons (.ret (.call c__law_fun (.cons (.v 0) (.cons (.v 1) (.cons (.v 2) (.cons (.v 3) (.cons (.v 4) .nil)))))))
    .nil) .nil)
    (.cons (.ift (.cmp .eq (.v 5) (.c (.int 3))) (.cons (.ret (.call c__law_pair (.cons (.v 0) (.cons (.v 1) (.cons (.v 2) (.cons (.v 3) (.cons (.v 4) .nil)))))))
    .nil) .nil)
    (.cons (.ift (.cmp .eq (.v 5) (.c (.int 4))) (.cons (.ret (.call c__law_like (.cons (.v 0) (.cons (.v 1) (.cons (.v 2) (.cons (.v 3) (.cons (.v 4) .nil)))))))
    .nil) .nil)
    (.cons (.asg (.nm 6) (.call c__law_term (.cons (.v 0) (.cons (.v 1) (.cons (.bin .sub (.v 2) (.c (.int 1))) (.cons (.v 3) (.cons (.v 4) .nil)))))))
    (.cons (.ift (.cmp .eq (.v 5) (.c (.int 5))) (.cons (.ret (.tup (.cons (.c (.str "never")) (.cons (.call c__law_kind (.cons (.v 0) (.cons (.v 1) (.cons (.bin .sub (.v 2) (.c (.int 2))) (.cons (.v 3) (.cons (.v 4) .nil)))))) (.cons (.v 6) .nil)))))
    .nil) .nil)
    (.cons (.ift (.cmp .eq (.v 5) (.c (.int 6))) (.cons (.ret (.tup (.cons (.ix (.lst (.cons (.c (.str "first")) (.cons (.c (.str "second")) .nil))) (.call c__law_draw (.cons (.v 0) (.cons (.v 1) (.cons (.c (.int 2)) .nil))))) (.cons (.v 6) .nil))))
    .nil) .nil)
    (.cons (.asg (.nm 7) (.call c__law_term (.cons (.v 0) (.cons (.v 1) (.cons (.bin .sub (.v 2) (.c (.int 1))) (.cons (.v 3) (.cons (.v 4) .nil)))))))
    (.cons (.ift (.cmp .eq (.v 5) (.c (.int 7))) (.cons (.ret (.tup (.cons (.c (.str "app")) (.cons (.v 6) (.cons (.v 7) .nil)))))
    .nil) .nil)
    (.cons (.ift (.cmp .eq (.v 5) (.c (.int 8))) (.cons (.ret (.tup (.cons (.c (.str "carry")) (.cons (.call c__law_kind (.cons (.v 0) (.cons (.v 1) (.cons (.bin .sub (.v 2) (.c (.int 2))) (.cons (.bin .add (.v 3) (.c (.int 1))) (.cons (.v 4) .nil)))))) (.cons (.v 6) (.cons (.v 7) .nil))))))
    .nil) .nil)
    (.cons (.asg (.nm 8) (.call c__law_term (.cons (.v 0) (.cons (.v 1) (.cons (.bin .sub (.v 2) (.c (.int 1))) (.cons (.v 3) (.cons (.v 4) .nil)))))))
    (.cons (.ret (.tup (.cons (.c (.str "rec")) (.cons (.call c__law_kind (.cons (.v 0) (.cons (.v 1) (.cons (.bin .sub (.v 2) (.c (.int 2))) (.cons (.bin .add (.v 3) (.c (.int 1))) (.cons (.v 4) .nil)))))) (.cons (.v 6) (.cons (.v 7) (.cons (.v 8) .nil)))))))
    .nil))))))))))))
/- _law_term(_law_script, _law_tape, _law_deep, _law_near, _law_pool_here): 0 _law_script, 1 _law_tape, 2 _law_deep, 3 _law_near, 4 _law_pool_here, 5 _law_way -/
def m_l_term (c__law_still c__law_parted c__law_leaf c__law_draw : Nat) : Sms :=
    (.cons (.asg (.nm 5) (.call c__law_draw (.cons (.v 0) (.cons (.v 1) (.cons (.c (.int 17)) .nil)))))
    (.cons (.ift (.or' (.cmp .lt (.v 2) (.c (.int 1))) (.cmp .lt (.v 5) (.c (.int 3)))) (.cons (.ret (.call c__law_leaf (.cons (.v 0) (.cons (.v 1) (.cons (.v 3) (.cons (.v 4) .nil))))))
    .nil) .nil)
    (.cons (.ift (.cmp .lt (.v 5) (.c (.int 7))) (.cons (.ret (.call c__law_parted (.cons (.v 0) (.cons (.v 1) (.cons (.v 2) (.cons (.v 3) (.cons (.v 4) (.cons (.bin .sub (.v 5) (.c (.int 3))) .nil))))))))
    .nil) .nil)
    (.cons (.ret (.call c__law_still (.cons (.v 0) (.cons (.v 1) (.cons (.v 2) (.cons (.v 3) (.cons (.v 4) (.cons (.bin .sub (.v 5) (.c (.int 7))) .nil))))))))
    .nil))))
/- _law_kids(_law_thing_here): 0 _law_thing_here -/
def m_l_kids_v2 : Sms :=
    (.cons (.ift (.cmp .inn (.ix (.v 0) (.c (.int 0))) (.tup (.cons (.c (.str "var")) (.cons (.c (.str "name")) .nil)))) (.cons (.ret (.lst .nil))
    .nil) .nil)
    (.cons (.ret (.bi .lst (.cons (.sl (.v 0) (.one (.c (.int 1))) .non) .nil)))
    .nil))
/- _law_measured(_law_thing_here): 0 _law_thing_here, 1 _law_knots, 2 _law_deep, 3 _law_most, 4 _law_kid, 5 _law_told_here -/
def m_l_measured (c__law_kids c__law_measured : Nat) : Sms :=
    (.cons (.asg (.nm 1) (.c (.int 1)))
    (.cons (.asg (.nm 2) (.c (.int 0)))
    (.cons (.asg (.nm 3) (.neg (.c (.int 1))))
    (.cons (.ift (.cmp .eq (.ix (.v 0) (.c (.int 0))) (.c (.str "var"))) (.cons (.asg (.nm 3) (.ix (.v 0) (.c (.int 1))))
    .nil) .nil)
    (.cons (.for' (.nm 4) (.val (.call c__law_kids (.cons (.v 0) .nil))) (.cons (.asg (.nm 5) (.call c__law_measured (.cons (.v 4) .nil)))
    (.cons (.asg (.nm 1) (.bin .add (.v 1) (.ix (.v 5) (.c (.int 0)))))
    (.cons (.asg (.nm 2) (.bi .max2 (.cons (.v 2) (.cons (.ix (.v 5) (.c (.int 1))) .nil))))
    (.cons (.asg (.nm 3) (.bi .max2 (.cons (.v 3) (.cons (.ix (.v 5) (.c (.int 2))) .nil))))
    .nil)))))
    (.cons (.ret (.tup (.cons (.v 1) (.cons (.bin .add (.v 2) (.c (.int 1))) (.cons (.v 3) .nil)))))
    .nil))))))
/- _law_great(_law_thing_here): 0 _law_thing_here, 1 _law_told_here -/
def m_l_great_v2 (c__law_measured : Nat) : Sms :=
    (.cons (.asg (.nm 1) (.call c__law_measured (.cons (.v 0) .nil)))
    (.cons (.ret (.or' (.cmp .gt (.ix (.v 1) (.c (.int 0))) (.c (.int 600))) (.or' (.cmp .gt (.ix (.v 1) (.c (.int 1))) (.c (.int 40))) (.cmp .gt (.ix (.v 1) (.c (.int 2))) (.c (.int 99))))))
    .nil))
/- _law_thing(_law_script, _law_tape, _law_deep, _law_near, _law_pool_here): 0 _law_script, 1 _law_tape, 2 _law_deep, 3 _law_near, 4 _law_pool_here, 5 _law_made -/
def m_l_thing (c__law_great c__law_draw c__law_kind c__law_term : Nat) : Sms :=
    (.cons (.ift (.cmp .eq (.call c__law_draw (.cons (.v 0) (.cons (.v 1) (.cons (.c (.int 5)) .nil)))) (.c (.int 0))) (.cons (.asg (.nm 5) (.call c__law_kind (.cons (.v 0) (.cons (.v 1) (.cons (.v 2) (.cons (.v 3) (.cons (.v 4) .nil)))))))
    .nil) (.cons (.asg (.nm 5) (.call c__law_term (.cons (.v 0) (.cons (.v 1) (.cons (.v 2) (.cons (.v 3) (.cons (.v 4) .nil)))))))
    .nil))
    (.cons (.ift (.call c__law_great (.cons (.v 5) .nil)) (.cons (.ret (.tup (.cons (.c (.str "zero")) .nil)))
    .nil) .nil)
    (.cons (.ret (.v 5))
    .nil)))
/- _law_book(_law_script, _law_tape, _law_pool_here): 0 _law_script, 1 _law_tape, 2 _law_pool_here, 3 _law_book_here, 4 _law_k, 5 _law_kind_here -/
def m_l_book (c__law_draw c__law_term c__law_kind : Nat) : Sms :=
    (.cons (.asg (.nm 3) (.dct [] .nil))
    (.cons (.for' (.nm 4) (.rng1 (.call c__law_draw (.cons (.v 0) (.cons (.v 1) (.cons (.c (.int 4)) .nil))))) (.cons (.asg (.nm 5) (.call c__law_kind (.cons (.v 0) (.cons (.v 1) (.cons (.c (.int 1)) (.cons (.c (.int 0)) (.cons (.v 2) .nil)))))))
    (.cons (.setI (.v 3) (.ix (.v 2) (.v 4)) (.tup (.cons (.v 5) (.cons (.call c__law_term (.cons (.v 0) (.cons (.v 1) (.cons (.c (.int 2)) (.cons (.c (.int 0)) (.cons (.v 2) .nil)))))) .nil))))
    .nil)))
    (.cons (.ret (.v 3))
    .nil)))
/- _law_rule(_law_thing_here, _law_book_here): 0 _law_thing_here, 1 _law_book_here, 2 _law_word, 3 _law_heads -/
def m_l_rule : Sms :=
    (.cons (.asg (.nm 2) (.ix (.v 0) (.c (.int 0))))
    (.cons (.ift (.cmp .eq (.v 2) (.c (.str "name"))) (.cons (.ret (.ix (.lst (.cons (.c (.str "name")) (.cons (.c .none) .nil))) (.bi .int (.cons (.cmp .nin (.ix (.v 0) (.c (.int 1))) (.v 1)) .nil))))
    .nil) .nil)
    (.cons (.asg (.nm 3) (.dct ["app", "carry", "first", "second"] (.cons (.tup (.cons (.c (.int 1)) (.cons (.c (.str "fun")) .nil))) (.cons (.tup (.cons (.c (.int 3)) (.cons (.c (.str "like")) .nil))) (.cons (.tup (.cons (.c (.int 1)) (.cons (.c (.str "pair")) .nil))) (.cons (.tup (.cons (.c (.int 1)) (.cons (.c (.str "pair")) .nil))) .nil))))))
    (.cons (.ift (.and' (.cmp .inn (.v 2) (.v 3)) (.cmp .eq (.ix (.ix (.v 0) (.ix (.ix (.v 3) (.v 2)) (.c (.int 0)))) (.c (.int 0))) (.ix (.ix (.v 3) (.v 2)) (.c (.int 1))))) (.cons (.ret (.ix (.dct ["app", "carry", "first", "second"] (.cons (.c (.str "fun")) (.cons (.c (.str "like")) (.cons (.c (.str "first")) (.cons (.c (.str "second")) .nil))))) (.v 2)))
    .nil) .nil)
    (.cons (.ift (.and' (.cmp .eq (.v 2) (.c (.str "rec"))) (.cmp .inn (.ix (.ix (.v 0) (.c (.int 4))) (.c (.int 0))) (.tup (.cons (.c (.str "zero")) (.cons (.c (.str "next")) .nil))))) (.cons (.ret (.ix (.ix (.v 0) (.c (.int 4))) (.c (.int 0))))
    .nil) .nil)
    (.cons (.ret (.c .none))
    .nil))))))
/- _law_rows(_law_thing_here, _law_book_here): 0 _law_thing_here, 1 _law_book_here, 2 _law_found, 3 _law_waiting, 4 _law_place, 5 _law_here, 6 _law_kids_here, 7 _law_step, 8 _law_number_here -/
def m_l_rows (c__law_kids c__law_rule : Nat) : Sms :=
    (.cons (.asg (.nm 2) (.lst .nil))
    (.cons (.asg (.nm 3) (.lst (.cons (.tup (.cons (.tup .nil) (.cons (.v 0) .nil))) .nil)))
    (.cons (.while (.cmp .gt (.bi .len (.cons (.v 3) .nil)) (.c (.int 0))) (.cons (.asg (.tp [4, 5]) (.mth .pop0 (.v 3) .nil))
    (.cons (.ex (.mth .append (.v 2) (.cons (.tup (.cons (.v 4) (.cons (.v 5) (.cons (.call c__law_rule (.cons (.v 5) (.cons (.v 1) .nil))) .nil)))) .nil)))
    (.cons (.asg (.nm 6) (.call c__law_kids (.cons (.v 5) .nil)))
    (.cons (.for' (.nm 7) (.rng1 (.bi .len (.cons (.v 6) .nil))) (.cons (.asg (.nm 8) (.bin .sub (.bin .sub (.bi .len (.cons (.v 6) .nil)) (.c (.int 1))) (.v 7)))
    (.cons (.ex (.mth .append (.v 3) (.cons (.tup (.cons (.bin .add (.v 4) (.tup (.cons (.v 8) .nil))) (.cons (.ix (.v 6) (.v 8)) .nil))) .nil)))
    .nil)))
    .nil)))))
    (.cons (.ret (.v 2))
    .nil))))
/- _law_told(_law_found, _law_due): 0 _law_found, 1 _law_due -/
def m_l_told : Sms :=
    (.cons (.ift (.cmp .is (.v 1) (.c .none)) (.cons (.ret (.cmp .is (.v 0) (.c .none)))
    .nil) .nil)
    (.cons (.ret (.and' (.isi (.v 0) .str) (.cmp .eq (.v 0) (.v 1))))
    .nil))
/- _law_all(_law_rows_here, _law_book_here): 0 _law_rows_here, 1 _law_book_here, 2 _law_row -/
def m_l_all (c__law_told c_rule_of : Nat) : Sms :=
    (.cons (.for' (.nm 2) (.val (.v 0)) (.cons (.ift (.not' (.call c__law_told (.cons (.call c_rule_of (.cons (.ix (.v 2) (.c (.int 1))) (.cons (.v 1) .nil))) (.cons (.ix (.v 2) (.c (.int 2))) .nil)))) (.cons (.ret (.c (.bool false)))
    .nil) .nil)
    .nil))
    (.cons (.ret (.c (.bool true)))
    .nil))
/- law(_law_script): 0 _law_script, 1 _law_tape, 2 _law_pool_here, 3 _law_near, 4 _law_book_here, 5 _law_thing_here, 6 _law_rows_here, 7 _law_handed, 8 _law_more, 9 _law_name -/
def m_law_v5 (c__law_told c_rule_of c__law_all c__law_rows c__law_draw c__law_thing c__law_book c__law_pool : Nat) : Sms :=
    (.cons (.asg (.nm 1) (.lst (.cons (.c (.int 0)) .nil)))
    (.cons (.asg (.nm 2) (.call c__law_pool (.cons (.v 0) (.cons (.v 1) .nil))))
    (.cons (.asg (.nm 3) (.ix (.lst (.cons (.c (.int 0)) (.cons (.c (.int 3)) (.cons (.c (.int 90)) .nil)))) (.call c__law_draw (.cons (.v 0) (.cons (.v 1) (.cons (.c (.int 3)) .nil))))))
    (.cons (.asg (.nm 4) (.call c__law_book (.cons (.v 0) (.cons (.v 1) (.cons (.v 2) .nil)))))
    (.cons (.asg (.nm 5) (.call c__law_thing (.cons (.v 0) (.cons (.v 1) (.cons (.bin .add (.c (.int 1)) (.call c__law_draw (.cons (.v 0) (.cons (.v 1) (.cons (.c (.int 5)) .nil))))) (.cons (.v 3) (.cons (.v 2) .nil)))))))
    (.cons (.asg (.nm 6) (.call c__law_rows (.cons (.v 5) (.cons (.v 4) .nil))))
    (.cons (.asg (.nm 7) (.bi .dict (.cons (.v 4) .nil)))
    (.cons (.ift (.or' (.not' (.call c__law_all (.cons (.v 6) (.cons (.v 7) .nil)))) (.cmp .ne (.v 7) (.v 4))) (.cons (.ret (.c (.bool false)))
    .nil) .nil)
    (.cons (.asg (.nm 8) (.bi .dict (.cons (.v 4) .nil)))
    (.cons (.asg (.nm 9) (.ix (.v 2) (.call c__law_draw (.cons (.v 0) (.cons (.v 1) (.cons (.c (.int 3)) .nil))))))
    (.cons (.setI (.v 8) (.v 9) (.tup (.cons (.tup (.cons (.c (.str "nat")) .nil)) (.cons (.tup (.cons (.c (.str "zero")) .nil)) .nil))))
    (.cons (.ift (.not' (.call c__law_all (.cons (.call c__law_rows (.cons (.v 5) (.cons (.v 8) .nil))) (.cons (.v 8) .nil)))) (.cons (.ret (.c (.bool false)))
    .nil) .nil)
    (.cons (.ret (.and' (.call c__law_told (.cons (.call c_rule_of (.cons (.tup (.cons (.c (.str "name")) (.cons (.v 9) .nil))) (.cons (.v 8) .nil))) (.cons (.c (.str "name")) .nil))) (.call c__law_all (.cons (.v 6) (.cons (.v 7) .nil)))))
    .nil)))))))))))))
/- shape_of(word): 0 word -/
def m_shape_of : Sms :=
    (.cons (.ift (.cmp .inn (.v 0) (.tup (.cons (.c (.str "nat")) (.cons (.c (.str "none")) (.cons (.c (.str "zero")) .nil))))) (.cons (.ret (.c (.str "")))
    .nil) .nil)
    (.cons (.ift (.cmp .inn (.v 0) (.tup (.cons (.c (.str "all")) (.cons (.c (.str "some")) .nil)))) (.cons (.ret (.c (.str "kk")))
    .nil) .nil)
    (.cons (.ift (.cmp .inn (.v 0) (.tup (.cons (.c (.str "fun")) (.cons (.c (.str "like")) (.cons (.c (.str "never")) .nil))))) (.cons (.ret (.c (.str "kt")))
    .nil) .nil)
    (.cons (.ift (.cmp .inn (.v 0) (.tup (.cons (.c (.str "same")) (.cons (.c (.str "carry")) (.cons (.c (.str "pair")) .nil))))) (.cons (.ret (.c (.str "ktt")))
    .nil) .nil)
    (.cons (.ift (.cmp .inn (.v 0) (.tup (.cons (.c (.str "next")) (.cons (.c (.str "first")) (.cons (.c (.str "second")) .nil))))) (.cons (.ret (.c (.str "t")))
    .nil) .nil)
    (.cons (.ift (.cmp .eq (.v 0) (.c (.str "app"))) (.cons (.ret (.c (.str "tt")))
    .nil) .nil)
    (.cons (.ift (.cmp .eq (.v 0) (.c (.str "rec"))) (.cons (.ret (.c (.str "kttt")))
    .nil) .nil)
    (.cons (.ift (.cmp .eq (.v 0) (.c (.str "var"))) (.cons (.ret (.c (.str "n")))
    .nil) .nil)
    (.cons (.ift (.cmp .eq (.v 0) (.c (.str "name"))) (.cons (.ret (.c (.str "w")))
    .nil) .nil)
    (.cons (.ret (.c .none))
    .nil))))))))))
/- is_kind_word(word): 0 word -/
def m_is_kind_word : Sms :=
    (.cons (.ret (.cmp .inn (.v 0) (.tup (.cons (.c (.str "nat")) (.cons (.c (.str "none")) (.cons (.c (.str "all")) (.cons (.c (.str "some")) (.cons (.c (.str "same")) .nil))))))))
    .nil)
/- is_number(thing): 0 thing -/
def m_is_number : Sms :=
    (.cons (.ret (.and' (.isi (.v 0) .int) (.and' (.not' (.isi (.v 0) .bool)) (.and' (.cmp .le (.c (.int 0)) (.v 0)) (.cmp .le (.v 0) (.c (.int 99)))))))
    .nil)
/- is_name(thing): 0 thing, 1 sign -/
def m_is_name (c_shape_of : Nat) : Sms :=
    (.cons (.ift (.or' (.not' (.isi (.v 0) .str)) (.or' (.cmp .lt (.bi .len (.cons (.v 0) .nil)) (.c (.int 1))) (.cmp .gt (.bi .len (.cons (.v 0) .nil)) (.c (.int 12))))) (.cons (.ret (.c (.bool false)))
    .nil) .nil)
    (.cons (.ret (.and' (.bi .all (.cons (.comp 1 (.val (.v 0)) .non (.cmp .inn (.v 1) (.c (.str "abcdefghijklmnopqrstuvwxyz")))) .nil)) (.cmp .is (.call c_shape_of (.cons (.v 0) .nil)) (.c .none))))
    .nil))
/- knots_if(thing, want, left): 0 thing, 1 want, 2 left, 3 shape, 4 total, 5 place, 6 part, 7 many -/
def m_knots_if (c_knots_if c_is_number c_is_name c_is_kind_word c_shape_of : Nat) : Sms :=
    (.cons (.ift (.or' (.cmp .eq (.v 2) (.c (.int 0))) (.or' (.not' (.isi (.v 0) .tup)) (.or' (.cmp .eq (.bi .len (.cons (.v 0) .nil)) (.c (.int 0))) (.not' (.isi (.ix (.v 0) (.c (.int 0))) .str))))) (.cons (.ret (.c (.int 0)))
    .nil) .nil)
    (.cons (.asg (.nm 3) (.call c_shape_of (.cons (.ix (.v 0) (.c (.int 0))) .nil)))
    (.cons (.ift (.or' (.cmp .is (.v 3) (.c .none)) (.or' (.cmp .ne (.bi .len (.cons (.v 0) .nil)) (.bin .add (.bi .len (.cons (.v 3) .nil)) (.c (.int 1)))) (.cmp .ne (.call c_is_kind_word (.cons (.ix (.v 0) (.c (.int 0))) .nil)) (.cmp .eq (.v 1) (.c (.str "k")))))) (.cons (.ret (.c (.int 0)))
    .nil) .nil)
    (.cons (.asg (.nm 4) (.c (.int 1)))
    (.cons (.for' (.nm 5) (.rng1 (.bi .len (.cons (.v 3) .nil))) (.cons (.asg (.nm 6) (.ix (.v 0) (.bin .add (.v 5) (.c (.int 1)))))
    (.cons (.asg (.nm 7) (.c (.int 0)))
    (.cons (.ift (.or' (.and' (.cmp .eq (.ix (.v 3) (.v 5)) (.c (.str "n"))) (.not' (.call c_is_number (.cons (.v 6) .nil)))) (.and' (.cmp .eq (.ix (.v 3) (.v 5)) (.c (.str "w"))) (.not' (.call c_is_name (.cons (.v 6) .nil))))) (.cons (.ret (.c (.int 0)))
    .nil) .nil)
    (.cons (.ift (.cmp .inn (.ix (.v 3) (.v 5)) (.c (.str "kt"))) (.cons (.asg (.nm 7) (.call c_knots_if (.cons (.v 6) (.cons (.ix (.v 3) (.v 5)) (.cons (.bin .sub (.v 2) (.c (.int 1))) .nil)))))
    (.cons (.ift (.cmp .eq (.v 7) (.c (.int 0))) (.cons (.ret (.c (.int 0)))
    .nil) .nil)
    .nil)) .nil)
    (.cons (.asg (.nm 4) (.bin .add (.v 4) (.v 7)))
    (.cons (.ift (.cmp .gt (.v 4) (.c (.int 600))) (.cons (.ret (.c (.int 0)))
    .nil) .nil)
    .nil)))))))
    (.cons (.ret (.v 4))
    .nil))))))
/- is_term(thing): 0 thing -/
def m_is_term (c_knots_if : Nat) : Sms :=
    (.cons (.ret (.cmp .gt (.call c_knots_if (.cons (.v 0) (.cons (.c (.str "t")) (.cons (.c (.int 40)) .nil)))) (.c (.int 0))))
    .nil)
/- steps_of(thing, book): 0 thing, 1 book, 2 found, 3 waiting, 4 place, 5 here, 6 rule, 7 kids, 8 number -/
def m_steps_of (c_kids_of c_rule_of : Nat) : Sms :=
    (.cons (.asg (.nm 2) (.lst .nil))
    (.cons (.asg (.nm 3) (.lst (.cons (.tup (.cons (.tup .nil) (.cons (.v 0) .nil))) .nil)))
    (.cons (.while (.cmp .gt (.bi .len (.cons (.v 3) .nil)) (.c (.int 0))) (.cons (.asg (.tp [4, 5]) (.mth .pop0 (.v 3) .nil))
    (.cons (.asg (.nm 6) (.call c_rule_of (.cons (.v 5) (.cons (.v 1) .nil))))
    (.cons (.ift (.cmp .isn (.v 6) (.c .none)) (.cons (.ex (.mth .append (.v 2) (.cons (.tup (.cons (.v 4) (.cons (.v 6) .nil))) .nil)))
    .nil) .nil)
    (.cons (.asg (.nm 7) (.call c_kids_of (.cons (.v 5) .nil)))
    (.cons (.for' (.nm 8) (.revR (.bi .len (.cons (.v 7) .nil))) (.cons (.ex (.mth .append (.v 3) (.cons (.tup (.cons (.bin .add (.v 4) (.tup (.cons (.v 8) .nil))) (.cons (.ix (.v 7) (.v 8)) .nil))) .nil)))
    .nil))
    .nil))))))
    (.cons (.ret (.v 2))
    .nil))))
/- _law_sized(_law_many): 0 _law_many -/
def m_l_sized (c__law_sized : Nat) : Sms :=
    (.cons (.ift (.cmp .eq (.v 0) (.c (.int 1))) (.cons (.ret (.tup (.cons (.c (.str "zero")) .nil)))
    .nil) .nil)
    (.cons (.ift (.cmp .eq (.v 0) (.c (.int 2))) (.cons (.ret (.tup (.cons (.c (.str "next")) (.cons (.tup (.cons (.c (.str "zero")) .nil)) .nil))))
    .nil) .nil)
    (.cons (.ret (.tup (.cons (.c (.str "app")) (.cons (.call c__law_sized (.cons (.bin .fdiv (.bin .sub (.v 0) (.c (.int 1))) (.c (.int 2))) .nil)) (.cons (.call c__law_sized (.cons (.bin .sub (.bin .sub (.v 0) (.c (.int 1))) (.bin .fdiv (.bin .sub (.v 0) (.c (.int 1))) (.c (.int 2)))) .nil)) .nil)))))
    .nil)))
/- _law_wrapped(_law_script, _law_tape, _law_thing_here): 0 _law_script, 1 _law_tape, 2 _law_thing_here, 3 _law_way -/
def m_l_wrapped (c__law_draw : Nat) : Sms :=
    (.cons (.asg (.nm 3) (.call c__law_draw (.cons (.v 0) (.cons (.v 1) (.cons (.c (.int 8)) .nil)))))
    (.cons (.ift (.cmp .inn (.ix (.v 2) (.c (.int 0))) (.tup (.cons (.c (.str "nat")) (.cons (.c (.str "none")) (.cons (.c (.str "all")) (.cons (.c (.str "some")) (.cons (.c (.str "same")) .nil))))))) (.cons (.ret (.ix (.lst (.cons (.tup (.cons (.c (.str "all")) (.cons (.tup (.cons (.c (.str "nat")) .nil)) (.cons (.v 2) .nil)))) (.cons (.tup (.cons (.c (.str "some")) (.cons (.v 2) (.cons (.tup (.cons (.c (.str "nat")) .nil)) .nil)))) (.cons (.tup (.cons (.c (.str "all")) (.cons (.v 2) (.cons (.tup (.cons (.c (.str "nat")) .nil)) .nil)))) .nil)))) (.bin .mod (.v 3) (.c (.int 3)))))
    .nil) .nil)
    (.cons (.ift (.cmp .lt (.v 3) (.c (.int 2))) (.cons (.ret (.ix (.lst (.cons (.tup (.cons (.c (.str "next")) (.cons (.v 2) .nil))) (.cons (.tup (.cons (.c (.str "second")) (.cons (.v 2) .nil))) .nil))) (.v 3)))
    .nil) .nil)
    (.cons (.ift (.cmp .lt (.v 3) (.c (.int 4))) (.cons (.ret (.ix (.lst (.cons (.tup (.cons (.c (.str "app")) (.cons (.v 2) (.cons (.tup (.cons (.c (.str "zero")) .nil)) .nil)))) (.cons (.tup (.cons (.c (.str "app")) (.cons (.tup (.cons (.c (.str "zero")) .nil)) (.cons (.v 2) .nil)))) .nil))) (.bin .sub (.v 3) (.c (.int 2)))))
    .nil) .nil)
    (.cons (.ift (.cmp .lt (.v 3) (.c (.int 6))) (.cons (.ret (.ix (.lst (.cons (.tup (.cons (.c (.str "pair")) (.cons (.tup (.cons (.c (.str "nat")) .nil)) (.cons (.tup (.cons (.c (.str "zero")) .nil)) (.cons (.v 2) .nil))))) (.cons (.tup (.cons (.c (.str "fun")) (.cons (.tup (.cons (.c (.str "nat")) .nil)) (.cons (.v 2) .nil)))) .nil))) (.bin .sub (.v 3) (.c (.int 4)))))
    .nil) .nil)
    (.cons (.ret (.ix (.lst (.cons (.tup (.cons (.c (.str "like")) (.cons (.tup (.cons (.c (.str "nat")) .nil)) (.cons (.v 2) .nil)))) (.cons (.tup (.cons (.c (.str "rec")) (.cons (.tup (.cons (.c (.str "nat")) .nil)) (.cons (.v 2) (.cons (.tup (.cons (.c (.str "zero")) .nil)) (.cons (.tup (.cons (.c (.str "zero")) .nil)) .nil)))))) .nil))) (.bin .sub (.v 3) (.c (.int 6)))))
    .nil))))))
/- _law_under(_law_script, _law_tape, _law_thing_here): 0 _law_script, 1 _law_tape, 2 _law_thing_here, 3 _law_many, 4 _law_k -/
def m_l_under (c__law_great c__law_measured c__law_wrapped c__law_draw : Nat) : Sms :=
    (.cons (.ift (.cmp .gt (.call c__law_draw (.cons (.v 0) (.cons (.v 1) (.cons (.c (.int 5)) .nil)))) (.c (.int 0))) (.cons (.ret (.v 2))
    .nil) .nil)
    (.cons (.asg (.nm 3) (.call c__law_draw (.cons (.v 0) (.cons (.v 1) (.cons (.c (.int 40)) .nil)))))
    (.cons (.for' (.nm 4) (.rng1 (.bin .sub (.v 3) (.ix (.call c__law_measured (.cons (.v 2) .nil)) (.c (.int 1))))) (.cons (.asg (.nm 2) (.call c__law_wrapped (.cons (.v 0) (.cons (.v 1) (.cons (.v 2) .nil)))))
    .nil))
    (.cons (.ift (.call c__law_great (.cons (.v 2) .nil)) (.cons (.ret (.tup (.cons (.c (.str "zero")) .nil)))
    .nil) .nil)
    (.cons (.ret (.v 2))
    .nil)))))
/- _law_pairs(_law_found, _law_due_here): 0 _law_found, 1 _law_due_here, 2 _law_k, 3 _law_pair_here, 4 _law_number_here -/
def m_l_pairs : Sms :=
    (.cons (.ift (.or' (.not' (.isi (.v 0) .lst)) (.cmp .ne (.bi .len (.cons (.v 0) .nil)) (.bi .len (.cons (.v 1) .nil)))) (.cons (.ret (.c (.bool false)))
    .nil) .nil)
    (.cons (.for' (.nm 2) (.rng1 (.bi .len (.cons (.v 1) .nil))) (.cons (.asg (.nm 3) (.ix (.v 0) (.v 2)))
    (.cons (.ift (.or' (.not' (.isi (.v 3) .tup)) (.or' (.cmp .ne (.bi .len (.cons (.v 3) .nil)) (.c (.int 2))) (.not' (.isi (.ix (.v 3) (.c (.int 0))) .tup)))) (.cons (.ret (.c (.bool false)))
    .nil) .nil)
    (.cons (.for' (.nm 4) (.val (.ix (.v 3) (.c (.int 0)))) (.cons (.ift (.or' (.not' (.isi (.v 4) .int)) (.isi (.v 4) .bool)) (.cons (.ret (.c (.bool false)))
    .nil) .nil)
    .nil))
    (.cons (.ift (.or' (.not' (.isi (.ix (.v 3) (.c (.int 1))) .str)) (.cmp .ne (.v 3) (.ix (.v 1) (.v 2)))) (.cons (.ret (.c (.bool false)))
    .nil) .nil)
    .nil)))))
    (.cons (.ret (.c (.bool true)))
    .nil)))
/- _law_due(_law_thing_here, _law_book_here): 0 _law_thing_here, 1 _law_book_here, 2 _law_row -/
def m_l_due_v2 (c__law_rows : Nat) : Sms :=
    (.cons (.ret (.comp 2 (.val (.call c__law_rows (.cons (.v 0) (.cons (.v 1) .nil)))) (.one (.cmp .isn (.ix (.v 2) (.c (.int 2))) (.c .none))) (.tup (.cons (.ix (.v 2) (.c (.int 0))) (.cons (.ix (.v 2) (.c (.int 2))) .nil)))))
    .nil)
/- law(_law_script): 0 _law_script, 1 _law_tape, 2 _law_pool_here, 3 _law_near, 4 _law_books, 5 _law_thing_here, 6 _law_told, 7 _law_handed, 8 _law_first, 9 _law_second, 10 _law_kept, 11 _law_book_here -/
def m_law_v6 (c__law_pairs c__law_due c_steps_of c__law_draw c_is_term c__law_sized c__law_measured c__law_under c__law_thing c__law_book c__law_pool : Nat) : Sms :=
    (.cons (.asg (.nm 1) (.lst (.cons (.c (.int 0)) .nil)))
    (.cons (.asg (.nm 2) (.call c__law_pool (.cons (.v 0) (.cons (.v 1) .nil))))
    (.cons (.asg (.nm 3) (.ix (.lst (.cons (.c (.int 0)) (.cons (.c (.int 3)) (.cons (.c (.int 90)) .nil)))) (.call c__law_draw (.cons (.v 0) (.cons (.v 1) (.cons (.c (.int 3)) .nil))))))
    (.cons (.asg (.nm 4) (.lst (.cons (.call c__law_book (.cons (.v 0) (.cons (.v 1) (.cons (.v 2) .nil)))) (.cons (.call c__law_book (.cons (.v 0) (.cons (.v 1) (.cons (.v 2) .nil)))) .nil))))
    (.cons (.asg (.nm 5) (.call c__law_thing (.cons (.v 0) (.cons (.v 1) (.cons (.bin .add (.c (.int 1)) (.call c__law_draw (.cons (.v 0) (.cons (.v 1) (.cons (.c (.int 5)) .nil))))) (.cons (.v 3) (.cons (.v 2) .nil)))))))
    (.cons (.asg (.nm 5) (.call c__law_under (.cons (.v 0) (.cons (.v 1) (.cons (.v 5) .nil)))))
    (.cons (.asg (.nm 6) (.call c__law_measured (.cons (.v 5) .nil)))
    (.cons (.ift (.and' (.cmp .eq (.call c__law_draw (.cons (.v 0) (.cons (.v 1) (.cons (.c (.int 8)) .nil)))) (.c (.int 0))) (.and' (.call c_is_term (.cons (.v 5) .nil)) (.and' (.cmp .lt (.ix (.v 6) (.c (.int 0))) (.c (.int 250))) (.cmp .lt (.ix (.v 6) (.c (.int 1))) (.c (.int 40)))))) (.cons (.asg (.nm 5) (.ix (.lst (.cons (.tup (.cons (.c (.str "app")) (.cons (.v 5) (.cons (.call c__law_sized (.cons (.c (.int 300)) .nil)) .nil)))) (.cons (.tup (.cons (.c (.str "app")) (.cons (.call c__law_sized (.cons (.c (.int 300)) .nil)) (.cons (.v 5) .nil)))) .nil))) (.call c__law_draw (.cons (.v 0) (.cons (.v 1) (.cons (.c (.int 2)) .nil))))))
    .nil) .nil)
    (.cons (.asg (.nm 7) (.comp 11 (.val (.v 4)) .non (.bi .dict (.cons (.v 11) .nil))))
    (.cons (.asg (.nm 8) (.call c_steps_of (.cons (.v 5) (.cons (.ix (.v 7) (.c (.int 0))) .nil))))
    (.cons (.ift (.not' (.call c__law_pairs (.cons (.v 8) (.cons (.call c__law_due (.cons (.v 5) (.cons (.ix (.v 4) (.c (.int 0))) .nil))) .nil)))) (.cons (.ret (.c (.bool false)))
    .nil) .nil)
    (.cons (.asg (.nm 9) (.call c_steps_of (.cons (.v 5) (.cons (.ix (.v 7) (.c (.int 1))) .nil))))
    (.cons (.asg (.nm 10) (.bi .lst (.cons (.v 9) .nil)))
    (.cons (.ift (.not' (.call c__law_pairs (.cons (.v 9) (.cons (.call c__law_due (.cons (.v 5) (.cons (.ix (.v 4) (.c (.int 1))) .nil))) .nil)))) (.cons (.ret (.c (.bool false)))
    .nil) .nil)
    (.cons (.ex (.mth .append (.v 8) (.cons (.tup (.cons (.tup .nil) (.cons (.c (.str "fun")) .nil))) .nil)))
    (.cons (.ex (.mth .reverse (.v 8) .nil))
    (.cons (.ift (.not' (.call c__law_pairs (.cons (.call c_steps_of (.cons (.v 5) (.cons (.ix (.v 7) (.c (.int 0))) .nil))) (.cons (.call c__law_due (.cons (.v 5) (.cons (.ix (.v 4) (.c (.int 0))) .nil))) .nil)))) (.cons (.ret (.c (.bool false)))
    .nil) .nil)
    (.cons (.ret (.and' (.call c__law_pairs (.cons (.v 9) (.cons (.v 10) .nil))) (.cmp .eq (.v 7) (.v 4))))
    .nil))))))))))))))))))
/- with_kids(thing, kids): 0 thing, 1 kids -/
def m_with_kids (c_bounded c_made_plain : Nat) : Sms :=
    (.cons (.ret (.call c_bounded (.cons (.call c_made_plain (.cons (.v 0) (.cons (.v 1) .nil))) .nil)))
    .nil)
/- changed_at(thing, place, new): 0 thing, 1 place, 2 new, 3 kids -/
def m_changed_at (c_made_plain c_changed_at c_kid_at c_kids_of : Nat) : Sms :=
    (.cons (.ift (.cmp .eq (.v 1) (.tup .nil)) (.cons (.ret (.v 2))
    .nil) .nil)
    (.cons (.asg (.nm 3) (.call c_kids_of (.cons (.v 0) .nil)))
    (.cons (.setI (.v 3) (.ix (.v 1) (.c (.int 0))) (.call c_changed_at (.cons (.call c_kid_at (.cons (.v 0) (.cons (.ix (.v 1) (.c (.int 0))) .nil))) (.cons (.sl (.v 1) (.one (.c (.int 1))) .non) (.cons (.v 2) .nil)))))
    (.cons (.ret (.call c_made_plain (.cons (.v 0) (.cons (.v 3) .nil))))
    .nil))))
/- with_at(thing, place, new): 0 thing, 1 place, 2 new -/
def m_with_at (c_bounded c_changed_at c_at_place : Nat) : Sms :=
    (.cons (.ex (.call c_at_place (.cons (.v 0) (.cons (.v 1) .nil))))
    (.cons (.ret (.call c_bounded (.cons (.call c_changed_at (.cons (.v 0) (.cons (.v 1) (.cons (.v 2) .nil)))) .nil)))
    .nil))
/- one_more(thing): 0 thing, 1 lesser, 2 below, 3 head -/
def m_one_more (c_with_kids : Nat) : Sms :=
    (.cons (.asg (.nm 1) (.ix (.ix (.v 0) (.c (.int 4))) (.c (.int 1))))
    (.cons (.asg (.nm 2) (.tup (.cons (.c (.str "rec")) (.cons (.ix (.v 0) (.c (.int 1))) (.cons (.ix (.v 0) (.c (.int 2))) (.cons (.ix (.v 0) (.c (.int 3))) (.cons (.v 1) .nil)))))))
    (.cons (.asg (.nm 3) (.tup (.cons (.c (.str "app")) (.cons (.ix (.v 0) (.c (.int 3))) (.cons (.v 1) .nil)))))
    (.cons (.ret (.call c_with_kids (.cons (.v 3) (.cons (.lst (.cons (.v 3) (.cons (.v 2) .nil))) .nil))))
    .nil))))
/- turned(thing, rule, book): 0 thing, 1 rule, 2 book -/
def m_turned (c_one_more c_put_in : Nat) : Sms :=
    (.cons (.ift (.cmp .eq (.v 1) (.c (.str "fun"))) (.cons (.ret (.call c_put_in (.cons (.ix (.ix (.v 0) (.c (.int 1))) (.c (.int 2))) (.cons (.ix (.v 0) (.c (.int 2))) (.cons (.c (.int 0)) .nil)))))
    .nil) .nil)
    (.cons (.ift (.cmp .eq (.v 1) (.c (.str "next"))) (.cons (.ret (.call c_one_more (.cons (.v 0) .nil)))
    .nil) .nil)
    (.cons (.ift (.cmp .eq (.v 1) (.c (.str "name"))) (.cons (.ret (.ix (.ix (.v 2) (.ix (.v 0) (.c (.int 1)))) (.c (.int 1))))
    .nil) .nil)
    (.cons (.ift (.cmp .eq (.v 1) (.c (.str "first"))) (.cons (.ret (.ix (.ix (.v 0) (.c (.int 1))) (.c (.int 2))))
    .nil) .nil)
    (.cons (.ift (.cmp .eq (.v 1) (.c (.str "second"))) (.cons (.ret (.ix (.ix (.v 0) (.c (.int 1))) (.c (.int 3))))
    .nil) .nil)
    (.cons (.ret (.ix (.v 0) (.c (.int 2))))
    .nil))))))
/- stepped(thing, place, book): 0 thing, 1 place, 2 book, 3 here, 4 rule -/
def m_stepped (c_with_at c_turned c_rule_of c_at_place x_NoStep : Nat) : Sms :=
    (.cons (.asg (.nm 3) (.call c_at_place (.cons (.v 0) (.cons (.v 1) .nil))))
    (.cons (.asg (.nm 4) (.call c_rule_of (.cons (.v 3) (.cons (.v 2) .nil))))
    (.cons (.ift (.cmp .is (.v 4) (.c .none)) (.cons (.raise x_NoStep)
    .nil) .nil)
    (.cons (.ret (.call c_with_at (.cons (.v 0) (.cons (.v 1) (.cons (.call c_turned (.cons (.v 3) (.cons (.v 4) (.cons (.v 2) .nil)))) .nil)))))
    .nil))))
/- first_step(thing, book): 0 thing, 1 book, 2 waiting, 3 place, 4 here, 5 rule, 6 kids, 7 number -/
def m_first_step (c_kids_of c_rule_of : Nat) : Sms :=
    (.cons (.asg (.nm 2) (.lst (.cons (.tup (.cons (.tup .nil) (.cons (.v 0) .nil))) .nil)))
    (.cons (.while (.cmp .gt (.bi .len (.cons (.v 2) .nil)) (.c (.int 0))) (.cons (.asg (.tp [3, 4]) (.mth .pop0 (.v 2) .nil))
    (.cons (.asg (.nm 5) (.call c_rule_of (.cons (.v 4) (.cons (.v 1) .nil))))
    (.cons (.ift (.cmp .isn (.v 5) (.c .none)) (.cons (.ret (.tup (.cons (.v 3) (.cons (.v 5) .nil))))
    .nil) .nil)
    (.cons (.asg (.nm 6) (.call c_kids_of (.cons (.v 4) .nil)))
    (.cons (.for' (.nm 7) (.revR (.bi .len (.cons (.v 6) .nil))) (.cons (.ex (.mth .append (.v 2) (.cons (.tup (.cons (.bin .add (.v 3) (.tup (.cons (.v 7) .nil))) (.cons (.ix (.v 6) (.v 7)) .nil))) .nil)))
    .nil))
    .nil))))))
    (.cons (.ret (.c .none))
    .nil)))
/- normal(thing, fuel, book): 0 thing, 1 fuel, 2 book, 3 log, 4 row -/
def m_normal (c_first_step c_stepped x_Dry : Nat) : Sms :=
    (.cons (.asg (.nm 3) (.lst .nil))
    (.cons (.asg (.nm 4) (.call c_first_step (.cons (.v 0) (.cons (.v 2) .nil))))
    (.cons (.while (.cmp .isn (.v 4) (.c .none)) (.cons (.ift (.cmp .eq (.bi .len (.cons (.v 3) .nil)) (.v 1)) (.cons (.raise x_Dry)
    .nil) .nil)
    (.cons (.asg (.nm 0) (.call c_stepped (.cons (.v 0) (.cons (.ix (.v 4) (.c (.int 0))) (.cons (.v 2) .nil)))))
    (.cons (.ex (.mth .append (.v 3) (.cons (.v 4) .nil)))
    (.cons (.asg (.nm 4) (.call c_first_step (.cons (.v 0) (.cons (.v 2) .nil))))
    .nil)))))
    (.cons (.ret (.tup (.cons (.v 0) (.cons (.v 3) .nil))))
    .nil))))
/- _law_named(_law_word_here): 0 _law_word_here -/
def m_l_named_v2 : Sms :=
    (.cons (.ift (.cmp .inn (.v 0) (.tup (.cons (.c (.str "nat")) (.cons (.c (.str "none")) (.cons (.c (.str "all")) (.cons (.c (.str "some")) (.cons (.c (.str "same")) (.cons (.c (.str "var")) (.cons (.c (.str "fun")) (.cons (.c (.str "app")) (.cons (.c (.str "zero")) (.cons (.c (.str "next")) (.cons (.c (.str "rec")) (.cons (.c (.str "like")) (.cons (.c (.str "carry")) .nil))))))))))))))) (.cons (.ret (.bin .add (.sl (.v 0) .non (.one (.neg (.c (.int 1))))) (.c (.str "q"))))
    .nil) .nil)
    (.cons (.ift (.cmp .inn (.v 0) (.tup (.cons (.c (.str "never")) (.cons (.c (.str "pair")) (.cons (.c (.str "first")) (.cons (.c (.str "second")) (.cons (.c (.str "name")) .nil))))))) (.cons (.ret (.bin .add (.sl (.v 0) .non (.one (.neg (.c (.int 1))))) (.c (.str "q"))))
    .nil) .nil)
    (.cons (.ret (.v 0))
    .nil)))
/- _law_word(_law_e): 0 _law_e, 1 _law_found, 2 _law_later -/
def m_l_word_v2 (p0 q0 p1 q1 p2 q2 p3 q3 p4 q4 p5 q5 : List Nat) : Sms :=
    (.cons (.asg (.nm 1) (.lst (.cons (.isx (.v 0) p5 q5) (.cons (.isx (.v 0) p4 q4) (.cons (.isx (.v 0) p3 q3) (.cons (.isx (.v 0) p2 q2) .nil))))))
    (.cons (.asg (.nm 2) (.isx (.v 0) p1 q1))
    (.cons (.ift (.or' (.v 2) (.or' (.not' (.isx (.v 0) p0 q0)) (.cmp .ne (.mth .count (.v 1) (.cons (.c (.bool true)) .nil)) (.c (.int 1))))) (.cons (.ret (.c (.str "other")))
    .nil) .nil)
    (.cons (.ret (.ix (.lst (.cons (.c (.str "great")) (.cons (.c (.str "place")) (.cons (.c (.str "step")) (.cons (.c (.str "dry")) .nil))))) (.mth .index (.v 1) (.cons (.c (.bool true)) .nil))))
    .nil))))
/- _law_chain(_law_many, _law_book_here): 0 _law_many, 1 _law_book_here, 2 _law_letters, 3 _law_k, 4 _law_after, 5 _law_word_here -/
def m_l_chain : Sms :=
    (.cons (.asg (.nm 2) (.c (.str "abcdefghijklmnopqrstuvwxyz")))
    (.cons (.for' (.nm 3) (.rng1 (.v 0)) (.cons (.asg (.nm 4) (.bin .add (.v 3) (.c (.int 1))))
    (.cons (.asg (.nm 5) (.bin .add (.bin .add (.c (.str "q")) (.ix (.v 2) (.bin .fdiv (.v 3) (.c (.int 26))))) (.ix (.v 2) (.bin .mod (.v 3) (.c (.int 26))))))
    (.cons (.setI (.v 1) (.v 5) (.tup (.cons (.tup (.cons (.c (.str "nat")) .nil)) (.cons (.tup (.cons (.c (.str "name")) (.cons (.bin .add (.bin .add (.c (.str "q")) (.ix (.v 2) (.bin .fdiv (.v 4) (.c (.int 26))))) (.ix (.v 2) (.bin .mod (.v 4) (.c (.int 26))))) .nil))) .nil))))
    .nil))))
    (.cons (.ret (.bin .add (.bin .add (.c (.str "q")) (.ix (.v 2) (.bin .fdiv (.v 0) (.c (.int 26))))) (.ix (.v 2) (.bin .mod (.v 0) (.c (.int 26))))))
    .nil)))
/- _law_sum(_law_script, _law_tape): 0 _law_script, 1 _law_tape, 2 _law_one, 3 _law_k, 4 _law_two, 5 _law_more -/
def m_l_sum (c__law_draw : Nat) : Sms :=
    (.cons (.asg (.nm 2) (.tup (.cons (.c (.str "zero")) .nil)))
    (.cons (.for' (.nm 3) (.rng1 (.call c__law_draw (.cons (.v 0) (.cons (.v 1) (.cons (.c (.int 5)) .nil))))) (.cons (.asg (.nm 2) (.tup (.cons (.c (.str "next")) (.cons (.v 2) .nil))))
    .nil))
    (.cons (.asg (.nm 4) (.tup (.cons (.c (.str "zero")) .nil)))
    (.cons (.for' (.nm 3) (.rng1 (.call c__law_draw (.cons (.v 0) (.cons (.v 1) (.cons (.c (.int 5)) .nil))))) (.cons (.asg (.nm 4) (.tup (.cons (.c (.str "next")) (.cons (.v 4) .nil))))
    .nil))
    (.cons (.asg (.nm 5) (.tup (.cons (.c (.str "fun")) (.cons (.tup (.cons (.c (.str "nat")) .nil)) (.cons (.tup (.cons (.c (.str "fun")) (.cons (.tup (.cons (.c (.str "nat")) .nil)) (.cons (.tup (.cons (.c (.str "next")) (.cons (.tup (.cons (.c (.str "var")) (.cons (.c (.int 0)) .nil))) .nil))) .nil)))) .nil)))))
    (.cons (.ret (.tup (.cons (.c (.str "rec")) (.cons (.tup (.cons (.c (.str "nat")) .nil)) (.cons (.v 4) (.cons (.v 5) (.cons (.v 2) .nil)))))))
    .nil))))))
/- _law_due(_law_thing_here, _law_fuel, _law_book_here): 0 _law_thing_here, 1 _law_fuel, 2 _law_book_here, 3 _law_log, 4 _law_rows_here, 5 _law_row -/
def m_l_due_v3 (c_stepped c__law_rows : Nat) (y_Great n_Great : List Nat) : Sms :=
    (.cons (.asg (.nm 3) (.lst .nil))
    (.cons (.while (.c (.bool true)) (.cons (.asg (.nm 4) (.comp 5 (.val (.call c__law_rows (.cons (.v 0) (.cons (.v 2) .nil)))) (.one (.cmp .isn (.ix (.v 5) (.c (.int 2))) (.c .none))) (.v 5)))
    (.cons (.ift (.cmp .eq (.v 4) (.lst .nil)) (.cons (.ret (.tup (.cons (.c (.str "thing")) (.cons (.v 0) (.cons (.v 3) .nil)))))
    .nil) .nil)
    (.cons (.ift (.cmp .eq (.bi .len (.cons (.v 3) .nil)) (.v 1)) (.cons (.ret (.tup (.cons (.c (.str "dry")) (.cons (.v 0) (.cons (.v 3) .nil)))))
    .nil) .nil)
    (.cons (.tryM (.cons (.asg (.nm 0) (.call c_stepped (.cons (.v 0) (.cons (.ix (.ix (.v 4) (.c (.int 0))) (.c (.int 0))) (.cons (.v 2) .nil)))))
    .nil) (.cons y_Great n_Great (.cons (.ret (.tup (.cons (.c (.str "great")) (.cons (.v 0) (.cons (.v 3) .nil)))))
    .nil)
    .nil))
    (.cons (.ex (.mth .append (.v 3) (.cons (.tup (.cons (.ix (.ix (.v 4) (.c (.int 0))) (.c (.int 0))) (.cons (.ix (.ix (.v 4) (.c (.int 0))) (.c (.int 2))) .nil))) .nil)))
    .nil))))))
    .nil))
/- _law_told(_law_thing_here, _law_fuel, _law_book_here): 0 _law_thing_here, 1 _law_fuel, 2 _law_book_here, 3 _law_found, 4 _law_e -/
def m_l_told_v8 (c_normal c__law_word : Nat) (y_KeeperError n_KeeperError : List Nat) : Sms :=
    (.cons (.tryA (.cons (.asg (.nm 3) (.call c_normal (.cons (.v 0) (.cons (.v 1) (.cons (.v 2) .nil)))))
    .nil) y_KeeperError n_KeeperError 4 (.cons (.ret (.tup (.cons (.call c__law_word (.cons (.v 4) .nil)) (.cons (.v 0) (.cons (.lst .nil) .nil)))))
    .nil))
    (.cons (.ift (.or' (.not' (.isi (.v 3) .tup)) (.or' (.cmp .ne (.bi .len (.cons (.v 3) .nil)) (.c (.int 2))) (.not' (.isi (.ix (.v 3) (.c (.int 1))) .lst)))) (.cons (.ret (.tup (.cons (.c (.str "other")) (.cons (.v 0) (.cons (.lst .nil) .nil)))))
    .nil) .nil)
    (.cons (.ret (.tup (.cons (.c (.str "thing")) (.cons (.ix (.v 3) (.c (.int 0))) (.cons (.ix (.v 3) (.c (.int 1))) .nil)))))
    .nil)))
/- _law_same(_law_found, _law_due_here): 0 _law_found, 1 _law_due_here -/
def m_l_same : Sms :=
    (.cons (.ift (.cmp .ne (.ix (.v 0) (.c (.int 0))) (.ix (.v 1) (.c (.int 0)))) (.cons (.ret (.c (.bool false)))
    .nil) .nil)
    (.cons (.ret (.or' (.cmp .ne (.ix (.v 0) (.c (.int 0))) (.c (.str "thing"))) (.and' (.cmp .eq (.ix (.v 0) (.c (.int 1))) (.ix (.v 1) (.c (.int 1)))) (.cmp .eq (.ix (.v 0) (.c (.int 2))) (.ix (.v 1) (.c (.int 2)))))))
    .nil))
/- law(_law_script): 0 _law_script, 1 _law_tape, 2 _law_pool_here, 3 _law_book_here, 4 _law_thing_here, 5 _law_fuel, 6 _law_due_here, 7 _law_handed, 8 _law_found, 9 _law_second, 10 _law_kept, 11 _law_many -/
def m_law_v7 (c__law_same c__law_told c__law_draw c__law_due c__law_chain c__law_sum c__law_under c__law_measured c__law_thing c__law_book c__law_pool : Nat) : Sms :=
    (.cons (.asg (.nm 1) (.lst (.cons (.c (.int 0)) .nil)))
    (.cons (.asg (.nm 2) (.call c__law_pool (.cons (.v 0) (.cons (.v 1) .nil))))
    (.cons (.asg (.nm 3) (.call c__law_book (.cons (.v 0) (.cons (.v 1) (.cons (.v 2) .nil)))))
    (.cons (.asg (.nm 4) (.call c__law_thing (.cons (.v 0) (.cons (.v 1) (.cons (.bin .add (.c (.int 1)) (.call c__law_draw (.cons (.v 0) (.cons (.v 1) (.cons (.c (.int 5)) .nil))))) (.cons (.ix (.lst (.cons (.c (.int 0)) (.cons (.c (.int 3)) (.cons (.c (.int 90)) .nil)))) (.call c__law_draw (.cons (.v 0) (.cons (.v 1) (.cons (.c (.int 3)) .nil))))) (.cons (.v 2) .nil)))))))
    (.cons (.asg (.nm 5) (.call c__law_draw (.cons (.v 0) (.cons (.v 1) (.cons (.c (.int 13)) .nil)))))
    (.cons (.ift (.and' (.cmp .eq (.call c__law_draw (.cons (.v 0) (.cons (.v 1) (.cons (.c (.int 3)) .nil)))) (.c (.int 0))) (.cmp .lt (.ix (.call c__law_measured (.cons (.v 4) .nil)) (.c (.int 0))) (.c (.int 30)))) (.cons (.asg (.nm 5) (.call c__law_draw (.cons (.v 0) (.cons (.v 1) (.cons (.c (.int 61)) .nil)))))
    .nil) .nil)
    (.cons (.asg (.nm 4) (.call c__law_under (.cons (.v 0) (.cons (.v 1) (.cons (.v 4) .nil)))))
    (.cons (.ift (.cmp .eq (.call c__law_draw (.cons (.v 0) (.cons (.v 1) (.cons (.c (.int 4)) .nil)))) (.c (.int 0))) (.cons (.asg (.nm 4) (.call c__law_sum (.cons (.v 0) (.cons (.v 1) .nil))))
    (.cons (.asg (.nm 5) (.c (.int 60)))
    .nil)) .nil)
    (.cons (.ift (.cmp .eq (.call c__law_draw (.cons (.v 0) (.cons (.v 1) (.cons (.c (.int 7)) .nil)))) (.c (.int 0))) (.cons (.asg (.nm 11) (.bin .add (.call c__law_draw (.cons (.v 0) (.cons (.v 1) (.cons (.c (.int 130)) .nil)))) (.bin .mul (.c (.int 300)) (.bi .int (.cons (.cmp .eq (.call c__law_draw (.cons (.v 0) (.cons (.v 1) (.cons (.c (.int 5)) .nil)))) (.c (.int 0))) .nil)))))
    (.cons (.setI (.v 3) (.call c__law_chain (.cons (.v 11) (.cons (.v 3) .nil))) (.tup (.cons (.tup (.cons (.c (.str "nat")) .nil)) (.cons (.tup (.cons (.c (.str "zero")) .nil)) .nil))))
    (.cons (.asg (.nm 4) (.tup (.cons (.c (.str "name")) (.cons (.c (.str "qaa")) .nil))))
    (.cons (.asg (.nm 5) (.c (.int 500)))
    .nil)))) .nil)
    (.cons (.asg (.nm 6) (.call c__law_due (.cons (.v 4) (.cons (.v 5) (.cons (.v 3) .nil)))))
    (.cons (.ift (.and' (.cmp .eq (.call c__law_draw (.cons (.v 0) (.cons (.v 1) (.cons (.c (.int 4)) .nil)))) (.c (.int 0))) (.cmp .eq (.ix (.v 6) (.c (.int 0))) (.c (.str "thing")))) (.cons (.asg (.nm 5) (.bi .max2 (.cons (.c (.int 0)) (.cons (.bin .sub (.bi .len (.cons (.ix (.v 6) (.c (.int 2))) .nil)) (.call c__law_draw (.cons (.v 0) (.cons (.v 1) (.cons (.c (.int 2)) .nil))))) .nil))))
    (.cons (.asg (.nm 6) (.call c__law_due (.cons (.v 4) (.cons (.v 5) (.cons (.v 3) .nil)))))
    .nil)) .nil)
    (.cons (.asg (.nm 7) (.bi .dict (.cons (.v 3) .nil)))
    (.cons (.asg (.nm 8) (.call c__law_told (.cons (.v 4) (.cons (.v 5) (.cons (.v 7) .nil)))))
    (.cons (.ift (.or' (.not' (.call c__law_same (.cons (.v 8) (.cons (.v 6) .nil)))) (.cmp .ne (.v 7) (.v 3))) (.cons (.ret (.c (.bool false)))
    .nil) .nil)
    (.cons (.ex (.mth .append (.ix (.v 8) (.c (.int 2))) (.cons (.tup (.cons (.tup .nil) (.cons (.c (.str "fun")) .nil))) .nil)))
    (.cons (.asg (.nm 9) (.call c__law_told (.cons (.v 4) (.cons (.v 5) (.cons (.v 7) .nil)))))
    (.cons (.asg (.nm 10) (.bi .lst (.cons (.ix (.v 9) (.c (.int 2))) .nil)))
    (.cons (.ex (.call c__law_told (.cons (.tup (.cons (.c (.str "first")) (.cons (.tup (.cons (.c (.str "pair")) (.cons (.tup (.cons (.c (.str "nat")) .nil)) (.cons (.tup (.cons (.c (.str "zero")) .nil)) (.cons (.tup (.cons (.c (.str "zero")) .nil)) .nil))))) .nil))) (.cons (.c (.int 3)) (.cons (.v 7) .nil)))))
    (.cons (.ret (.and' (.call c__law_same (.cons (.v 9) (.cons (.v 6) .nil))) (.cmp .eq (.ix (.v 9) (.c (.int 2))) (.v 10))))
    .nil)))))))))))))))))))
/- walked(thing, log, book): 0 thing, 1 log, 2 book, 3 place, 4 rule -/
def m_walked (c_stepped c_rule_of c_at_place x_NoStep : Nat) : Sms :=
    (.cons (.for' (.tp [3, 4]) (.val (.v 1)) (.cons (.ift (.cmp .ne (.call c_rule_of (.cons (.call c_at_place (.cons (.v 0) (.cons (.v 3) .nil))) (.cons (.v 2) .nil))) (.v 4)) (.cons (.raise x_NoStep)
    .nil) .nil)
    (.cons (.asg (.nm 0) (.call c_stepped (.cons (.v 0) (.cons (.v 3) (.cons (.v 2) .nil)))))
    .nil)))
    (.cons (.ret (.v 0))
    .nil))
/- _law_log(_law_script, _law_tape, _law_thing_here, _law_book_here): 0 _law_script, 1 _law_tape, 2 _law_thing_here, 3 _law_book_here, 4 _law_log_here, 5 _law_k, 6 _law_able, 7 _law_row -/
def m_l_log (c__law_draw c_stepped c__law_rows : Nat) (y_Great n_Great : List Nat) : Sms :=
    (.cons (.asg (.nm 4) (.lst .nil))
    (.cons (.for' (.nm 5) (.rng1 (.call c__law_draw (.cons (.v 0) (.cons (.v 1) (.cons (.c (.int 7)) .nil))))) (.cons (.asg (.nm 6) (.comp 7 (.val (.call c__law_rows (.cons (.v 2) (.cons (.v 3) .nil)))) (.one (.cmp .isn (.ix (.v 7) (.c (.int 2))) (.c .none))) (.v 7)))
    (.cons (.ift (.cmp .eq (.v 6) (.lst .nil)) (.cons (.ret (.v 4))
    .nil) .nil)
    (.cons (.asg (.nm 7) (.ix (.v 6) (.bin .mod (.call c__law_draw (.cons (.v 0) (.cons (.v 1) (.cons (.c (.int 1000)) .nil)))) (.bi .len (.cons (.v 6) .nil)))))
    (.cons (.ex (.mth .append (.v 4) (.cons (.tup (.cons (.ix (.v 7) (.c (.int 0))) (.cons (.ix (.v 7) (.c (.int 2))) .nil))) .nil)))
    (.cons (.tryM (.cons (.asg (.nm 2) (.call c_stepped (.cons (.v 2) (.cons (.ix (.v 7) (.c (.int 0))) (.cons (.v 3) .nil)))))
    .nil) (.cons y_Great n_Great (.cons (.ret (.v 4))
    .nil)
    .nil))
    .nil))))))
    (.cons (.ret (.v 4))
    .nil)))
/- _law_spoilt(_law_script, _law_tape, _law_log_here, _law_rows_here): 0 _law_script, 1 _law_tape, 2 _law_log_here, 3 _law_rows_here, 4 _law_at, 5 _law_way, 6 _law_words, 7 _law_other, 8 _law_word_here, 9 _law_row -/
def m_l_spoilt_v2 (c__law_draw : Nat) : Sms :=
    (.cons (.asg (.nm 4) (.bin .mod (.call c__law_draw (.cons (.v 0) (.cons (.v 1) (.cons (.c (.int 1000)) .nil)))) (.bin .add (.bi .len (.cons (.v 2) .nil)) (.c (.int 1)))))
    (.cons (.asg (.nm 5) (.call c__law_draw (.cons (.v 0) (.cons (.v 1) (.cons (.c (.int 9)) .nil)))))
    (.cons (.asg (.nm 6) (.lst (.cons (.c (.str "fun")) (.cons (.c (.str "zero")) (.cons (.c (.str "next")) (.cons (.c (.str "like")) (.cons (.c (.str "first")) (.cons (.c (.str "second")) (.cons (.c (.str "name")) (.cons (.c (.str "none")) (.cons (.c (.str "")) .nil)))))))))))
    (.cons (.asg (.nm 7) (.ix (.v 3) (.bin .mod (.call c__law_draw (.cons (.v 0) (.cons (.v 1) (.cons (.c (.int 1000)) .nil)))) (.bi .len (.cons (.v 3) .nil)))))
    (.cons (.asg (.nm 8) (.ix (.v 6) (.call c__law_draw (.cons (.v 0) (.cons (.v 1) (.cons (.c (.int 9)) .nil))))))
    (.cons (.ift (.cmp .eq (.v 5) (.c (.int 0))) (.cons (.ret (.bin .add (.bin .add (.sl (.v 2) .non (.one (.v 4))) (.lst (.cons (.tup (.cons (.ix (.v 7) (.c (.int 0))) (.cons (.v 8) .nil))) .nil))) (.sl (.v 2) (.one (.v 4)) .non)))
    .nil) .nil)
    (.cons (.ift (.or' (.cmp .gt (.v 5) (.c (.int 5))) (.cmp .eq (.v 4) (.bi .len (.cons (.v 2) .nil)))) (.cons (.ret (.v 2))
    .nil) .nil)
    (.cons (.asg (.nm 9) (.ix (.v 2) (.v 4)))
    (.cons (.ift (.cmp .eq (.v 5) (.c (.int 1))) (.cons (.ret (.bin .add (.bin .add (.sl (.v 2) .non (.one (.v 4))) (.lst (.cons (.tup (.cons (.ix (.v 9) (.c (.int 0))) (.cons (.v 8) .nil))) .nil))) (.sl (.v 2) (.one (.bin .add (.v 4) (.c (.int 1)))) .non)))
    .nil) .nil)
    (.cons (.ift (.cmp .eq (.v 5) (.c (.int 2))) (.cons (.ret (.bin .add (.bin .add (.sl (.v 2) .non (.one (.v 4))) (.lst (.cons (.tup (.cons (.ix (.v 7) (.c (.int 0))) (.cons (.ix (.v 9) (.c (.int 1))) .nil))) .nil))) (.sl (.v 2) (.one (.bin .add (.v 4) (.c (.int 1)))) .non)))
    .nil) .nil)
    (.cons (.ift (.cmp .eq (.v 5) (.c (.int 3))) (.cons (.ret (.bin .add (.bin .add (.sl (.v 2) .non (.one (.v 4))) (.lst (.cons (.tup (.cons (.bin .add (.ix (.v 9) (.c (.int 0))) (.tup (.cons (.bin .add (.c (.int 4)) (.v 4)) .nil))) (.cons (.ix (.v 9) (.c (.int 1))) .nil))) .nil))) (.sl (.v 2) (.one (.bin .add (.v 4) (.c (.int 1)))) .non)))
    .nil) .nil)
    (.cons (.ift (.cmp .eq (.v 5) (.c (.int 4))) (.cons (.ret (.bin .add (.bin .add (.sl (.v 2) .non (.one (.v 4))) (.lst (.cons (.v 9) .nil))) (.sl (.v 2) (.one (.v 4)) .non)))
    .nil) .nil)
    (.cons (.ret (.bin .add (.sl (.v 2) .non (.one (.v 4))) (.sl (.v 2) (.one (.bin .add (.v 4) (.c (.int 1)))) .non)))
    .nil)))))))))))))
/- _law_due(_law_thing_here, _law_log_here, _law_book_here): 0 _law_thing_here, 1 _law_log_here, 2 _law_book_here, 3 _law_place, 4 _law_rule_here, 5 _law_here, 6 _law_row -/
def m_l_due_v4 (c_stepped c__law_rows : Nat) (y_Great n_Great : List Nat) : Sms :=
    (.cons (.for' (.tp [3, 4]) (.val (.v 1)) (.cons (.asg (.nm 5) (.comp 6 (.val (.call c__law_rows (.cons (.v 0) (.cons (.v 2) .nil)))) (.one (.cmp .eq (.ix (.v 6) (.c (.int 0))) (.v 3))) (.v 6)))
    (.cons (.ift (.cmp .eq (.v 5) (.lst .nil)) (.cons (.ret (.tup (.cons (.c (.str "refused")) (.cons (.c (.str "place")) .nil))))
    .nil) .nil)
    (.cons (.ift (.or' (.cmp .is (.ix (.ix (.v 5) (.c (.int 0))) (.c (.int 2))) (.c .none)) (.cmp .ne (.ix (.ix (.v 5) (.c (.int 0))) (.c (.int 2))) (.v 4))) (.cons (.ret (.tup (.cons (.c (.str "refused")) (.cons (.c (.str "step")) .nil))))
    .nil) .nil)
    (.cons (.tryM (.cons (.asg (.nm 0) (.call c_stepped (.cons (.v 0) (.cons (.v 3) (.cons (.v 2) .nil)))))
    .nil) (.cons y_Great n_Great (.cons (.ret (.tup (.cons (.c (.str "refused")) (.cons (.c (.str "great")) .nil))))
    .nil)
    .nil))
    .nil)))))
    (.cons (.ret (.tup (.cons (.c (.str "thing")) (.cons (.v 0) .nil))))
    .nil))
/- _law_told(_law_thing_here, _law_log_here, _law_book_here): 0 _law_thing_here, 1 _law_log_here, 2 _law_book_here, 3 _law_e -/
def m_l_told_v9 (c_walked c__law_word : Nat) (y_KeeperError n_KeeperError : List Nat) : Sms :=
    (.cons (.tryA (.cons (.ret (.tup (.cons (.c (.str "thing")) (.cons (.call c_walked (.cons (.v 0) (.cons (.v 1) (.cons (.v 2) .nil)))) .nil))))
    .nil) y_KeeperError n_KeeperError 3 (.cons (.ret (.tup (.cons (.c (.str "refused")) (.cons (.call c__law_word (.cons (.v 3) .nil)) .nil))))
    .nil))
    .nil)
/- law(_law_script): 0 _law_script, 1 _law_tape, 2 _law_pool_here, 3 _law_book_here, 4 _law_thing_here, 5 _law_log_here, 6 _law_due_here, 7 _law_handed, 8 _law_found, 9 _law_short, 10 _law_many -/
def m_law_v8 (c__law_told c__law_due c__law_spoilt c__law_rows c__law_draw c__law_chain c__law_log c__law_under c__law_thing c__law_book c__law_pool : Nat) : Sms :=
    (.cons (.asg (.nm 1) (.lst (.cons (.c (.int 0)) .nil)))
    (.cons (.asg (.nm 2) (.call c__law_pool (.cons (.v 0) (.cons (.v 1) .nil))))
    (.cons (.asg (.nm 3) (.call c__law_book (.cons (.v 0) (.cons (.v 1) (.cons (.v 2) .nil)))))
    (.cons (.asg (.nm 4) (.call c__law_thing (.cons (.v 0) (.cons (.v 1) (.cons (.bin .add (.c (.int 1)) (.call c__law_draw (.cons (.v 0) (.cons (.v 1) (.cons (.c (.int 5)) .nil))))) (.cons (.ix (.lst (.cons (.c (.int 0)) (.cons (.c (.int 3)) (.cons (.c (.int 90)) .nil)))) (.call c__law_draw (.cons (.v 0) (.cons (.v 1) (.cons (.c (.int 3)) .nil))))) (.cons (.v 2) .nil)))))))
    (.cons (.asg (.nm 4) (.call c__law_under (.cons (.v 0) (.cons (.v 1) (.cons (.v 4) .nil)))))
    (.cons (.asg (.nm 5) (.call c__law_log (.cons (.v 0) (.cons (.v 1) (.cons (.v 4) (.cons (.v 3) .nil))))))
    (.cons (.ift (.cmp .eq (.call c__law_draw (.cons (.v 0) (.cons (.v 1) (.cons (.c (.int 7)) .nil)))) (.c (.int 0))) (.cons (.asg (.nm 10) (.call c__law_draw (.cons (.v 0) (.cons (.v 1) (.cons (.c (.int 130)) .nil)))))
    (.cons (.setI (.v 3) (.call c__law_chain (.cons (.v 10) (.cons (.v 3) .nil))) (.tup (.cons (.tup (.cons (.c (.str "nat")) .nil)) (.cons (.tup (.cons (.c (.str "zero")) .nil)) .nil))))
    (.cons (.asg (.nm 4) (.tup (.cons (.c (.str "name")) (.cons (.c (.str "qaa")) .nil))))
    (.cons (.asg (.nm 5) (.bin .mul (.lst (.cons (.tup (.cons (.tup .nil) (.cons (.c (.str "name")) .nil))) .nil)) (.bin .add (.v 10) (.c (.int 1)))))
    .nil)))) .nil)
    (.cons (.asg (.nm 5) (.call c__law_spoilt (.cons (.v 0) (.cons (.v 1) (.cons (.v 5) (.cons (.call c__law_rows (.cons (.v 4) (.cons (.v 3) .nil))) .nil))))))
    (.cons (.asg (.nm 6) (.call c__law_due (.cons (.v 4) (.cons (.v 5) (.cons (.v 3) .nil)))))
    (.cons (.asg (.nm 7) (.bi .lst (.cons (.v 5) .nil)))
    (.cons (.asg (.nm 8) (.call c__law_told (.cons (.v 4) (.cons (.v 7) (.cons (.bi .dict (.cons (.v 3) .nil)) .nil)))))
    (.cons (.ift (.or' (.cmp .ne (.v 8) (.v 6)) (.cmp .ne (.v 7) (.v 5))) (.cons (.ret (.c (.bool false)))
    .nil) .nil)
    (.cons (.ift (.cmp .ne (.call c__law_told (.cons (.v 4) (.cons (.bi .tup (.cons (.v 5) .nil)) (.cons (.v 3) .nil)))) (.v 6)) (.cons (.ret (.c (.bool false)))
    .nil) .nil)
    (.cons (.asg (.nm 9) (.sl (.v 5) .non (.one (.c (.int 1)))))
    (.cons (.ift (.cmp .ne (.call c__law_told (.cons (.v 4) (.cons (.v 9) (.cons (.v 3) .nil)))) (.call c__law_due (.cons (.v 4) (.cons (.v 9) (.cons (.v 3) .nil))))) (.cons (.ret (.c (.bool false)))
    .nil) .nil)
    (.cons (.ret (.cmp .eq (.call c__law_told (.cons (.v 4) (.cons (.v 7) (.cons (.v 3) .nil)))) (.v 6)))
    .nil))))))))))))))))
/- unlike(here, there): 0 here, 1 there -/
def m_unlike : Sms :=
    (.cons (.ift (.cmp .ne (.ix (.v 0) (.c (.int 0))) (.ix (.v 1) (.c (.int 0)))) (.cons (.ret (.c (.bool true)))
    .nil) .nil)
    (.cons (.ret (.and' (.cmp .inn (.ix (.v 0) (.c (.int 0))) (.tup (.cons (.c (.str "var")) (.cons (.c (.str "name")) .nil)))) (.cmp .ne (.ix (.v 0) (.c (.int 1))) (.ix (.v 1) (.c (.int 1))))))
    .nil))
/- parting(one, other): 0 one, 1 other, 2 waiting, 3 place, 4 here, 5 there, 6 kids, 7 others, 8 number -/
def m_parting (c_kids_of c_unlike : Nat) : Sms :=
    (.cons (.asg (.nm 2) (.lst (.cons (.tup (.cons (.tup .nil) (.cons (.v 0) (.cons (.v 1) .nil)))) .nil)))
    (.cons (.while (.cmp .gt (.bi .len (.cons (.v 2) .nil)) (.c (.int 0))) (.cons (.asg (.tp [3, 4, 5]) (.mth .pop0 (.v 2) .nil))
    (.cons (.ift (.call c_unlike (.cons (.v 4) (.cons (.v 5) .nil))) (.cons (.ret (.v 3))
    .nil) .nil)
    (.cons (.asg (.nm 6) (.call c_kids_of (.cons (.v 4) .nil)))
    (.cons (.asg (.nm 7) (.call c_kids_of (.cons (.v 5) .nil)))
    (.cons (.for' (.nm 8) (.revR (.bi .len (.cons (.v 6) .nil))) (.cons (.ex (.mth .append (.v 2) (.cons (.tup (.cons (.bin .add (.v 3) (.tup (.cons (.v 8) .nil))) (.cons (.ix (.v 6) (.v 8)) (.cons (.ix (.v 7) (.v 8)) .nil)))) .nil)))
    .nil))
    .nil))))))
    (.cons (.ret (.c .none))
    .nil)))
/- _law_with(_law_thing_here, _law_place, _law_new): 0 _law_thing_here, 1 _law_place, 2 _law_new, 3 _law_at -/
def m_l_with_v2 (c__law_with : Nat) : Sms :=
    (.cons (.ift (.cmp .eq (.v 1) (.tup .nil)) (.cons (.ret (.v 2))
    .nil) .nil)
    (.cons (.asg (.nm 3) (.bin .add (.ix (.v 1) (.c (.int 0))) (.c (.int 1))))
    (.cons (.ret (.bin .add (.bin .add (.sl (.v 0) .non (.one (.v 3))) (.tup (.cons (.call c__law_with (.cons (.ix (.v 0) (.v 3)) (.cons (.sl (.v 1) (.one (.c (.int 1))) .non) (.cons (.v 2) .nil)))) .nil))) (.sl (.v 0) (.one (.bin .add (.v 3) (.c (.int 1)))) .non)))
    .nil)))
/- _law_unlike(_law_here, _law_there): 0 _law_here, 1 _law_there -/
def m_l_unlike : Sms :=
    (.cons (.ift (.cmp .ne (.ix (.v 0) (.c (.int 0))) (.ix (.v 1) (.c (.int 0)))) (.cons (.ret (.c (.bool true)))
    .nil) .nil)
    (.cons (.ret (.and' (.cmp .inn (.ix (.v 0) (.c (.int 0))) (.tup (.cons (.c (.str "var")) (.cons (.c (.str "name")) .nil)))) (.cmp .ne (.ix (.v 0) (.c (.int 1))) (.ix (.v 1) (.c (.int 1))))))
    .nil))
/- _law_due(_law_one, _law_other): 0 _law_one, 1 _law_other, 2 _law_rows_here, 3 _law_others, 4 _law_k -/
def m_l_due_v5 (c__law_unlike c__law_rows : Nat) : Sms :=
    (.cons (.asg (.nm 2) (.call c__law_rows (.cons (.v 0) (.cons (.dct [] .nil) .nil))))
    (.cons (.asg (.nm 3) (.call c__law_rows (.cons (.v 1) (.cons (.dct [] .nil) .nil))))
    (.cons (.for' (.nm 4) (.rng1 (.bi .min2 (.cons (.bi .len (.cons (.v 2) .nil)) (.cons (.bi .len (.cons (.v 3) .nil)) .nil)))) (.cons (.ift (.call c__law_unlike (.cons (.ix (.ix (.v 2) (.v 4)) (.c (.int 1))) (.cons (.ix (.ix (.v 3) (.v 4)) (.c (.int 1))) .nil))) (.cons (.ret (.ix (.ix (.v 2) (.v 4)) (.c (.int 0))))
    .nil) .nil)
    .nil))
    (.cons (.ret (.c .none))
    .nil))))
/- _law_changed(_law_script, _law_tape, _law_thing_here, _law_near, _law_pool_here): 0 _law_script, 1 _law_tape, 2 _law_thing_here, 3 _law_near, 4 _law_pool_here, 5 _law_rows_here, 6 _law_row, 7 _law_deep, 8 _law_made, 9 _law_new -/
def m_l_changed (c__law_great c__law_with c__law_kind c__law_draw c__law_term c__law_rows : Nat) : Sms :=
    (.cons (.asg (.nm 5) (.call c__law_rows (.cons (.v 2) (.cons (.dct [] .nil) .nil))))
    (.cons (.asg (.nm 6) (.ix (.v 5) (.bin .mod (.call c__law_draw (.cons (.v 0) (.cons (.v 1) (.cons (.bin .pow (.c (.int 10)) (.c (.int 6))) .nil)))) (.bi .len (.cons (.v 5) .nil)))))
    (.cons (.asg (.nm 7) (.call c__law_draw (.cons (.v 0) (.cons (.v 1) (.cons (.c (.int 3)) .nil)))))
    (.cons (.ift (.cmp .inn (.ix (.ix (.v 6) (.c (.int 1))) (.c (.int 0))) (.tup (.cons (.c (.str "nat")) (.cons (.c (.str "none")) (.cons (.c (.str "all")) (.cons (.c (.str "some")) (.cons (.c (.str "same")) .nil))))))) (.cons (.asg (.nm 9) (.call c__law_kind (.cons (.v 0) (.cons (.v 1) (.cons (.v 7) (.cons (.v 3) (.cons (.v 4) .nil)))))))
    .nil) (.cons (.ift (.and' (.cmp .eq (.ix (.ix (.v 6) (.c (.int 1))) (.c (.int 0))) (.c (.str "var"))) (.cmp .eq (.call c__law_draw (.cons (.v 0) (.cons (.v 1) (.cons (.c (.int 2)) .nil)))) (.c (.int 0)))) (.cons (.asg (.nm 9) (.tup (.cons (.c (.str "var")) (.cons (.bin .mod (.bin .add (.ix (.ix (.v 6) (.c (.int 1))) (.c (.int 1))) (.c (.int 1))) (.c (.int 100))) .nil))))
    .nil) (.cons (.ift (.cmp .eq (.ix (.ix (.v 6) (.c (.int 1))) (.c (.int 0))) (.c (.str "name"))) (.cons (.asg (.nm 9) (.tup (.cons (.c (.str "name")) (.cons (.ix (.v 4) (.call c__law_draw (.cons (.v 0) (.cons (.v 1) (.cons (.c (.int 3)) .nil))))) .nil))))
    .nil) (.cons (.asg (.nm 9) (.call c__law_term (.cons (.v 0) (.cons (.v 1) (.cons (.v 7) (.cons (.v 3) (.cons (.v 4) .nil)))))))
    .nil))
    .nil))
    .nil))
    (.cons (.asg (.nm 8) (.call c__law_with (.cons (.v 2) (.cons (.ix (.v 6) (.c (.int 0))) (.cons (.v 9) .nil)))))
    (.cons (.ift (.call c__law_great (.cons (.v 8) .nil)) (.cons (.ret (.v 2))
    .nil) .nil)
    (.cons (.ret (.v 8))
    .nil)))))))
/- _law_nexts(_law_many, _law_thing_here): 0 _law_many, 1 _law_thing_here, 2 _law_k -/
def m_l_nexts_v2 : Sms :=
    (.cons (.for' (.nm 2) (.rng1 (.v 0)) (.cons (.asg (.nm 1) (.tup (.cons (.c (.str "next")) (.cons (.v 1) .nil))))
    .nil))
    (.cons (.ret (.v 1))
    .nil))
/- _law_told(_law_found, _law_due_here): 0 _law_found, 1 _law_due_here, 2 _law_number_here -/
def m_l_told_v3 : Sms :=
    (.cons (.ift (.cmp .is (.v 1) (.c .none)) (.cons (.ret (.cmp .is (.v 0) (.c .none)))
    .nil) .nil)
    (.cons (.ift (.or' (.not' (.isi (.v 0) .tup)) (.cmp .ne (.v 0) (.v 1))) (.cons (.ret (.c (.bool false)))
    .nil) .nil)
    (.cons (.for' (.nm 2) (.val (.v 0)) (.cons (.ift (.or' (.not' (.isi (.v 2) .int)) (.isi (.v 2) .bool)) (.cons (.ret (.c (.bool false)))
    .nil) .nil)
    .nil))
    (.cons (.ret (.c (.bool true)))
    .nil))))
/- law(_law_script): 0 _law_script, 1 _law_tape, 2 _law_pool_here, 3 _law_near, 4 _law_sort, 5 _law_deep, 6 _law_one, 7 _law_other, 8 _law_way, 9 _law_k, 10 _law_due_here, 11 _law_side, 12 _law_many -/
def m_law_v12 (c__law_told c_parting c__law_due c__law_draw c__law_measured c__law_nexts c__law_sized c__law_changed c__law_great c__law_kind c__law_term c__law_pool : Nat) : Sms :=
    (.cons (.asg (.nm 1) (.lst (.cons (.c (.int 0)) .nil)))
    (.cons (.asg (.nm 2) (.call c__law_pool (.cons (.v 0) (.cons (.v 1) .nil))))
    (.cons (.asg (.nm 3) (.ix (.lst (.cons (.c (.int 0)) (.cons (.c (.int 3)) (.cons (.c (.int 90)) .nil)))) (.call c__law_draw (.cons (.v 0) (.cons (.v 1) (.cons (.c (.int 3)) .nil))))))
    (.cons (.asg (.nm 4) (.call c__law_draw (.cons (.v 0) (.cons (.v 1) (.cons (.c (.int 5)) .nil)))))
    (.cons (.asg (.nm 5) (.bin .add (.c (.int 1)) (.call c__law_draw (.cons (.v 0) (.cons (.v 1) (.cons (.c (.int 5)) .nil))))))
    (.cons (.asg (.nm 6) (.call c__law_term (.cons (.v 0) (.cons (.v 1) (.cons (.v 5) (.cons (.v 3) (.cons (.v 2) .nil)))))))
    (.cons (.asg (.nm 7) (.call c__law_term (.cons (.v 0) (.cons (.v 1) (.cons (.v 5) (.cons (.v 3) (.cons (.v 2) .nil)))))))
    (.cons (.ift (.cmp .eq (.v 4) (.c (.int 0))) (.cons (.asg (.nm 6) (.call c__law_kind (.cons (.v 0) (.cons (.v 1) (.cons (.v 5) (.cons (.v 3) (.cons (.v 2) .nil)))))))
    (.cons (.asg (.nm 7) (.call c__law_kind (.cons (.v 0) (.cons (.v 1) (.cons (.v 5) (.cons (.v 3) (.cons (.v 2) .nil)))))))
    .nil)) .nil)
    (.cons (.ift (.or' (.call c__law_great (.cons (.v 6) .nil)) (.call c__law_great (.cons (.v 7) .nil))) (.cons (.ret (.c (.bool true)))
    .nil) .nil)
    (.cons (.asg (.nm 8) (.call c__law_draw (.cons (.v 0) (.cons (.v 1) (.cons (.c (.int 5)) .nil)))))
    (.cons (.ift (.cmp .lt (.v 8) (.c (.int 4))) (.cons (.asg (.nm 7) (.v 6))
    .nil) .nil)
    (.cons (.for' (.nm 9) (.rng1 (.ix (.lst (.cons (.c (.int 0)) (.cons (.c (.int 1)) (.cons (.c (.int 1)) (.cons (.c (.int 2)) (.cons (.c (.int 0)) .nil)))))) (.v 8))) (.cons (.asg (.nm 7) (.call c__law_changed (.cons (.v 0) (.cons (.v 1) (.cons (.v 7) (.cons (.v 3) (.cons (.v 2) .nil)))))))
    .nil))
    (.cons (.ift (.and' (.cmp .gt (.v 4) (.c (.int 0))) (.and' (.cmp .eq (.call c__law_draw (.cons (.v 0) (.cons (.v 1) (.cons (.c (.int 6)) .nil)))) (.c (.int 0))) (.cmp .lt (.bin .add (.ix (.call c__law_measured (.cons (.v 6) .nil)) (.c (.int 0))) (.ix (.call c__law_measured (.cons (.v 7) .nil)) (.c (.int 0)))) (.c (.int 200))))) (.cons (.asg (.nm 11) (.call c__law_sized (.cons (.bin .add (.c (.int 1)) (.call c__law_draw (.cons (.v 0) (.cons (.v 1) (.cons (.c (.int 300)) .nil))))) .nil)))
    (.cons (.asg (.nm 12) (.call c__law_draw (.cons (.v 0) (.cons (.v 1) (.cons (.c (.int 25)) .nil)))))
    (.cons (.asg (.nm 6) (.call c__law_nexts (.cons (.v 12) (.cons (.tup (.cons (.c (.str "app")) (.cons (.v 11) (.cons (.v 6) .nil)))) .nil))))
    (.cons (.asg (.nm 7) (.call c__law_nexts (.cons (.v 12) (.cons (.tup (.cons (.c (.str "app")) (.cons (.v 11) (.cons (.v 7) .nil)))) .nil))))
    .nil)))) .nil)
    (.cons (.asg (.nm 10) (.call c__law_due (.cons (.v 6) (.cons (.v 7) .nil))))
    (.cons (.ift (.or' (.not' (.call c__law_told (.cons (.call c_parting (.cons (.v 6) (.cons (.v 7) .nil))) (.cons (.v 10) .nil)))) (.not' (.call c__law_told (.cons (.call c_parting (.cons (.v 7) (.cons (.v 6) .nil))) (.cons (.v 10) .nil))))) (.cons (.ret (.c (.bool false)))
    .nil) .nil)
    (.cons (.ret (.and' (.call c__law_told (.cons (.call c_parting (.cons (.v 6) (.cons (.v 6) .nil))) (.cons (.c .none) .nil))) (.call c__law_told (.cons (.call c_parting (.cons (.v 6) (.cons (.v 7) .nil))) (.cons (.v 10) .nil)))))
    .nil))))))))))))))))
/- compared(one, other, fuel, book): 0 one, 1 other, 2 fuel, 3 book, 4 here, 5 there -/
def m_compared (c_parting c_normal : Nat) : Sms :=
    (.cons (.asg (.nm 4) (.call c_normal (.cons (.v 0) (.cons (.v 2) (.cons (.v 3) .nil)))))
    (.cons (.asg (.nm 5) (.call c_normal (.cons (.v 1) (.cons (.v 2) (.cons (.v 3) .nil)))))
    (.cons (.ret (.tup (.cons (.ix (.v 4) (.c (.int 0))) (.cons (.ix (.v 5) (.c (.int 0))) (.cons (.ix (.v 4) (.c (.int 1))) (.cons (.ix (.v 5) (.c (.int 1))) (.cons (.call c_parting (.cons (.ix (.v 4) (.c (.int 0))) (.cons (.ix (.v 5) (.c (.int 0))) .nil))) .nil)))))))
    .nil)))
/- alike(one, other, fuel, book): 0 one, 1 other, 2 fuel, 3 book -/
def m_alike (c_compared : Nat) : Sms :=
    (.cons (.ret (.cmp .is (.ix (.call c_compared (.cons (.v 0) (.cons (.v 1) (.cons (.v 2) (.cons (.v 3) .nil))))) (.c (.int 4))) (.c .none)))
    .nil)
/- _law_other(_law_script, _law_tape, _law_thing_here, _law_book_here): 0 _law_script, 1 _law_tape, 2 _law_thing_here, 3 _law_book_here, 4 _law_now, 5 _law_turn, 6 _law_able, 7 _law_row -/
def m_l_other_v3 (c__law_draw c_stepped c__law_rows : Nat) (y_Great n_Great : List Nat) : Sms :=
    (.cons (.asg (.nm 4) (.v 2))
    (.cons (.for' (.nm 5) (.rng1 (.call c__law_draw (.cons (.v 0) (.cons (.v 1) (.cons (.c (.int 4)) .nil))))) (.cons (.asg (.nm 6) (.comp 7 (.val (.call c__law_rows (.cons (.v 4) (.cons (.v 3) .nil)))) (.one (.cmp .isn (.ix (.v 7) (.c (.int 2))) (.c .none))) (.v 7)))
    (.cons (.ift (.cmp .eq (.v 6) (.lst .nil)) (.cons (.ret (.v 4))
    .nil) .nil)
    (.cons (.tryM (.cons (.asg (.nm 4) (.call c_stepped (.cons (.v 4) (.cons (.ix (.ix (.v 6) (.bin .mod (.call c__law_draw (.cons (.v 0) (.cons (.v 1) (.cons (.c (.int 1000)) .nil)))) (.bi .len (.cons (.v 6) .nil)))) (.c (.int 0))) (.cons (.v 3) .nil)))))
    .nil) (.cons y_Great n_Great (.cons (.ret (.v 4))
    .nil)
    .nil))
    .nil))))
    (.cons (.ret (.v 4))
    .nil)))
/- _law_unlike_ends(_law_script, _law_tape, _law_pool_here, _law_book_here): 0 _law_script, 1 _law_tape, 2 _law_pool_here, 3 _law_book_here, 4 _law_twice, 5 _law_both_here, 6 _law_at -/
def m_l_unlike_ends (c__law_draw c__law_sized : Nat) : Sms :=
    (.cons (.setI (.v 3) (.ix (.v 2) (.c (.int 0))) (.tup (.cons (.tup (.cons (.c (.str "nat")) .nil)) (.cons (.tup (.cons (.c (.str "name")) (.cons (.ix (.v 2) (.c (.int 0))) .nil))) .nil))))
    (.cons (.asg (.nm 4) (.tup (.cons (.c (.str "app")) (.cons (.tup (.cons (.c (.str "fun")) (.cons (.tup (.cons (.c (.str "nat")) .nil)) (.cons (.tup (.cons (.c (.str "app")) (.cons (.tup (.cons (.c (.str "var")) (.cons (.c (.int 0)) .nil))) (.cons (.tup (.cons (.c (.str "var")) (.cons (.c (.int 0)) .nil))) .nil)))) .nil)))) (.cons (.call c__law_sized (.cons (.c (.int 301)) .nil)) .nil)))))
    (.cons (.asg (.nm 5) (.lst (.cons (.tup (.cons (.c (.str "name")) (.cons (.ix (.v 2) (.c (.int 0))) .nil))) (.cons (.v 4) .nil))))
    (.cons (.asg (.nm 6) (.call c__law_draw (.cons (.v 0) (.cons (.v 1) (.cons (.c (.int 2)) .nil)))))
    (.cons (.ret (.tup (.cons (.ix (.v 5) (.v 6)) (.cons (.ix (.v 5) (.bin .sub (.c (.int 1)) (.v 6))) .nil))))
    .nil)))))
/- _law_due(_law_one, _law_other_here, _law_fuel, _law_book_here): 0 _law_one, 1 _law_other_here, 2 _law_fuel, 3 _law_book_here, 4 _law_here, 5 _law_there, 6 _law_e -/
def m_l_due_v8 (c_parting c_normal c__law_word : Nat) (y_KeeperError n_KeeperError : List Nat) : Sms :=
    (.cons (.tryA (.cons (.asg (.nm 4) (.call c_normal (.cons (.v 0) (.cons (.v 2) (.cons (.v 3) .nil)))))
    (.cons (.asg (.nm 5) (.call c_normal (.cons (.v 1) (.cons (.v 2) (.cons (.v 3) .nil)))))
    .nil)) y_KeeperError n_KeeperError 6 (.cons (.ret (.tup (.cons (.c (.str "refused")) (.cons (.call c__law_word (.cons (.v 6) .nil)) .nil))))
    .nil))
    (.cons (.ret (.tup (.cons (.c (.str "told")) (.cons (.tup (.cons (.ix (.v 4) (.c (.int 0))) (.cons (.ix (.v 5) (.c (.int 0))) (.cons (.ix (.v 4) (.c (.int 1))) (.cons (.ix (.v 5) (.c (.int 1))) (.cons (.call c_parting (.cons (.ix (.v 4) (.c (.int 0))) (.cons (.ix (.v 5) (.c (.int 0))) .nil))) .nil)))))) .nil))))
    .nil))
/- _law_told(_law_one, _law_other_here, _law_fuel, _law_book_here): 0 _law_one, 1 _law_other_here, 2 _law_fuel, 3 _law_book_here, 4 _law_e -/
def m_l_told_v11 (c_compared c__law_word : Nat) (y_KeeperError n_KeeperError : List Nat) : Sms :=
    (.cons (.tryA (.cons (.ret (.tup (.cons (.c (.str "told")) (.cons (.call c_compared (.cons (.v 0) (.cons (.v 1) (.cons (.v 2) (.cons (.v 3) .nil))))) .nil))))
    .nil) y_KeeperError n_KeeperError 4 (.cons (.ret (.tup (.cons (.c (.str "refused")) (.cons (.call c__law_word (.cons (.v 4) .nil)) .nil))))
    .nil))
    .nil)
/- _law_alike(_law_one, _law_other_here, _law_fuel, _law_book_here): 0 _law_one, 1 _law_other_here, 2 _law_fuel, 3 _law_book_here, 4 _law_found, 5 _law_e -/
def m_l_alike_v3 (c_alike c__law_word : Nat) (y_KeeperError n_KeeperError : List Nat) : Sms :=
    (.cons (.tryA (.cons (.asg (.nm 4) (.call c_alike (.cons (.v 0) (.cons (.v 1) (.cons (.v 2) (.cons (.v 3) .nil))))))
    .nil) y_KeeperError n_KeeperError 5 (.cons (.ret (.call c__law_word (.cons (.v 5) .nil)))
    .nil))
    (.cons (.ift (.not' (.isi (.v 4) .bool)) (.cons (.ret (.c (.str "other")))
    .nil) .nil)
    (.cons (.ret (.ix (.lst (.cons (.c (.str "unlike")) (.cons (.c (.str "alike")) .nil))) (.bi .int (.cons (.v 4) .nil))))
    .nil)))
/- _law_drawn(_law_script, _law_tape, _law_pool_here, _law_book_here, _law_fuel): 0 _law_script, 1 _law_tape, 2 _law_pool_here, 3 _law_book_here, 4 _law_fuel, 5 _law_near, 6 _law_way, 7 _law_one, 8 _law_other_here -/
def m_l_drawn (c__law_great c__law_draw c__law_measured c__law_sized c__law_other c__law_kind c__law_term : Nat) : Sms :=
    (.cons (.asg (.nm 5) (.ix (.lst (.cons (.c (.int 0)) (.cons (.c (.int 3)) (.cons (.c (.int 90)) .nil)))) (.call c__law_draw (.cons (.v 0) (.cons (.v 1) (.cons (.c (.int 3)) .nil))))))
    (.cons (.asg (.nm 6) (.call c__law_draw (.cons (.v 0) (.cons (.v 1) (.cons (.c (.int 8)) .nil)))))
    (.cons (.asg (.nm 7) (.call c__law_term (.cons (.v 0) (.cons (.v 1) (.cons (.bin .add (.c (.int 1)) (.bin .mod (.v 4) (.c (.int 4)))) (.cons (.v 5) (.cons (.v 2) .nil)))))))
    (.cons (.asg (.nm 8) (.call c__law_term (.cons (.v 0) (.cons (.v 1) (.cons (.bin .add (.c (.int 1)) (.bin .mod (.v 4) (.c (.int 4)))) (.cons (.v 5) (.cons (.v 2) .nil)))))))
    (.cons (.ift (.cmp .eq (.bin .mod (.v 6) (.c (.int 4))) (.c (.int 3))) (.cons (.asg (.nm 7) (.call c__law_kind (.cons (.v 0) (.cons (.v 1) (.cons (.bin .add (.c (.int 1)) (.bin .mod (.v 4) (.c (.int 4)))) (.cons (.v 5) (.cons (.v 2) .nil)))))))
    (.cons (.asg (.nm 8) (.call c__law_kind (.cons (.v 0) (.cons (.v 1) (.cons (.bin .add (.c (.int 1)) (.bin .mod (.v 4) (.c (.int 4)))) (.cons (.v 5) (.cons (.v 2) .nil)))))))
    .nil)) .nil)
    (.cons (.ift (.or' (.call c__law_great (.cons (.v 7) .nil)) (.call c__law_great (.cons (.v 8) .nil))) (.cons (.ret (.tup (.cons (.tup (.cons (.c (.str "zero")) .nil)) (.cons (.tup (.cons (.c (.str "zero")) .nil)) .nil))))
    .nil) .nil)
    (.cons (.ift (.cmp .lt (.v 6) (.c (.int 6))) (.cons (.asg (.nm 8) (.call c__law_other (.cons (.v 0) (.cons (.v 1) (.cons (.v 7) (.cons (.v 3) .nil))))))
    .nil) .nil)
    (.cons (.ift (.and' (.cmp .eq (.v 6) (.c (.int 0))) (.and' (.cmp .lt (.ix (.call c__law_measured (.cons (.v 8) .nil)) (.c (.int 1))) (.c (.int 40))) (.cmp .lt (.ix (.call c__law_measured (.cons (.v 8) .nil)) (.c (.int 0))) (.c (.int 600))))) (.cons (.asg (.nm 8) (.tup (.cons (.c (.str "next")) (.cons (.v 8) .nil))))
    .nil) .nil)
    (.cons (.ift (.and' (.cmp .lt (.bin .mod (.v 6) (.c (.int 4))) (.c (.int 3))) (.and' (.cmp .eq (.call c__law_draw (.cons (.v 0) (.cons (.v 1) (.cons (.c (.int 8)) .nil)))) (.c (.int 0))) (.cmp .lt (.bin .add (.ix (.call c__law_measured (.cons (.v 7) .nil)) (.c (.int 0))) (.ix (.call c__law_measured (.cons (.v 8) .nil)) (.c (.int 0)))) (.c (.int 300))))) (.cons (.asg (.nm 7) (.tup (.cons (.c (.str "pair")) (.cons (.tup (.cons (.c (.str "nat")) .nil)) (.cons (.call c__law_sized (.cons (.bin .add (.c (.int 200)) (.bin .mul (.v 4) (.c (.int 5)))) .nil)) (.cons (.v 7) .nil))))))
    (.cons (.asg (.nm 8) (.tup (.cons (.c (.str "pair")) (.cons (.tup (.cons (.c (.str "nat")) .nil)) (.cons (.call c__law_sized (.cons (.bin .add (.c (.int 200)) (.bin .mul (.call c__law_draw (.cons (.v 0) (.cons (.v 1) (.cons (.c (.int 21)) .nil)))) (.c (.int 5)))) .nil)) (.cons (.v 8) .nil))))))
    .nil)) .nil)
    (.cons (.ift (.or' (.call c__law_great (.cons (.v 7) .nil)) (.call c__law_great (.cons (.v 8) .nil))) (.cons (.ret (.tup (.cons (.tup (.cons (.c (.str "zero")) .nil)) (.cons (.tup (.cons (.c (.str "zero")) .nil)) .nil))))
    .nil) .nil)
    (.cons (.ret (.tup (.cons (.v 7) (.cons (.v 8) .nil))))
    .nil)))))))))))
/- _law_both(_law_script, _law_tape, _law_pool_here, _law_book_here): 0 _law_script, 1 _law_tape, 2 _law_pool_here, 3 _law_book_here, 4 _law_fuel, 5 _law_one, 6 _law_other_here, 7 _law_many, 8 _law_last -/
def m_l_both (c__law_draw c__law_unlike_ends c__law_chain c__law_drawn : Nat) : Sms :=
    (.cons (.asg (.nm 4) (.call c__law_draw (.cons (.v 0) (.cons (.v 1) (.cons (.c (.int 21)) .nil)))))
    (.cons (.asg (.tp [5, 6]) (.call c__law_drawn (.cons (.v 0) (.cons (.v 1) (.cons (.v 2) (.cons (.v 3) (.cons (.v 4) .nil)))))))
    (.cons (.ift (.cmp .eq (.call c__law_draw (.cons (.v 0) (.cons (.v 1) (.cons (.c (.int 8)) .nil)))) (.c (.int 0))) (.cons (.asg (.nm 7) (.call c__law_draw (.cons (.v 0) (.cons (.v 1) (.cons (.c (.int 130)) .nil)))))
    (.cons (.asg (.nm 8) (.call c__law_chain (.cons (.v 7) (.cons (.v 3) .nil))))
    (.cons (.setI (.v 3) (.v 8) (.tup (.cons (.tup (.cons (.c (.str "nat")) .nil)) (.cons (.tup (.cons (.c (.str "zero")) .nil)) .nil))))
    (.cons (.asg (.nm 5) (.tup (.cons (.c (.str "name")) (.cons (.c (.str "qaa")) .nil))))
    (.cons (.asg (.nm 6) (.ix (.lst (.cons (.tup (.cons (.c (.str "zero")) .nil)) (.cons (.tup (.cons (.c (.str "name")) (.cons (.v 8) .nil))) (.cons (.tup (.cons (.c (.str "next")) (.cons (.v 5) .nil))) (.cons (.tup (.cons (.c (.str "name")) (.cons (.c (.str "qab")) .nil))) .nil))))) (.call c__law_draw (.cons (.v 0) (.cons (.v 1) (.cons (.c (.int 4)) .nil))))))
    (.cons (.asg (.nm 4) (.bi .max2 (.cons (.c (.int 0)) (.cons (.bin .sub (.bin .add (.v 7) (.c (.int 2))) (.call c__law_draw (.cons (.v 0) (.cons (.v 1) (.cons (.c (.int 4)) .nil))))) .nil))))
    .nil)))))) .nil)
    (.cons (.ift (.cmp .eq (.call c__law_draw (.cons (.v 0) (.cons (.v 1) (.cons (.c (.int 9)) .nil)))) (.c (.int 0))) (.cons (.asg (.tp [5, 6]) (.call c__law_unlike_ends (.cons (.v 0) (.cons (.v 1) (.cons (.v 2) (.cons (.v 3) .nil))))))
    .nil) .nil)
    (.cons (.ret (.tup (.cons (.v 5) (.cons (.v 6) (.cons (.v 4) .nil)))))
    .nil)))))
/- law(_law_script): 0 _law_script, 1 _law_tape, 2 _law_pool_here, 3 _law_book_here, 4 _law_one, 5 _law_other_here, 6 _law_fuel, 7 _law_due_here, 8 _law_handed, 9 _law_found, 10 _law_word_here, 11 _law_again, 12 _law_second -/
def m_law_v13 (c__law_told c__law_due c__law_alike c__law_both c__law_book c__law_pool : Nat) : Sms :=
    (.cons (.asg (.nm 1) (.lst (.cons (.c (.int 0)) .nil)))
    (.cons (.asg (.nm 2) (.call c__law_pool (.cons (.v 0) (.cons (.v 1) .nil))))
    (.cons (.asg (.nm 3) (.call c__law_book (.cons (.v 0) (.cons (.v 1) (.cons (.v 2) .nil)))))
    (.cons (.asg (.tp [4, 5, 6]) (.call c__law_both (.cons (.v 0) (.cons (.v 1) (.cons (.v 2) (.cons (.v 3) .nil))))))
    (.cons (.asg (.nm 7) (.call c__law_due (.cons (.v 4) (.cons (.v 5) (.cons (.v 6) (.cons (.v 3) .nil))))))
    (.cons (.asg (.nm 8) (.bi .dict (.cons (.v 3) .nil)))
    (.cons (.asg (.nm 9) (.call c__law_told (.cons (.v 4) (.cons (.v 5) (.cons (.v 6) (.cons (.v 8) .nil))))))
    (.cons (.ift (.or' (.cmp .ne (.v 9) (.v 7)) (.cmp .ne (.v 8) (.v 3))) (.cons (.ret (.c (.bool false)))
    .nil) .nil)
    (.cons (.asg (.nm 10) (.ix (.v 7) (.c (.int 1))))
    (.cons (.ift (.cmp .eq (.ix (.v 7) (.c (.int 0))) (.c (.str "told"))) (.cons (.asg (.nm 10) (.ix (.lst (.cons (.c (.str "unlike")) (.cons (.c (.str "alike")) .nil))) (.bi .int (.cons (.cmp .is (.ix (.ix (.v 7) (.c (.int 1))) (.c (.int 4))) (.c .none)) .nil))))
    (.cons (.ift (.not' (.isi (.ix (.v 9) (.c (.int 1))) .tup)) (.cons (.ret (.c (.bool false)))
    .nil) .nil)
    (.cons (.ift (.or' (.not' (.isi (.ix (.ix (.v 9) (.c (.int 1))) (.c (.int 2))) .lst)) (.not' (.isi (.ix (.ix (.v 9) (.c (.int 1))) (.c (.int 3))) .lst))) (.cons (.ret (.c (.bool false)))
    .nil) .nil)
    (.cons (.ex (.mth .append (.ix (.ix (.v 9) (.c (.int 1))) (.c (.int 2))) (.cons (.tup (.cons (.tup .nil) (.cons (.c (.str "fun")) .nil))) .nil)))
    (.cons (.ex (.mth .append (.ix (.ix (.v 9) (.c (.int 1))) (.c (.int 3))) (.cons (.tup (.cons (.tup .nil) (.cons (.c (.str "name")) .nil))) .nil)))
    .nil))))) .nil)
    (.cons (.ift (.cmp .ne (.call c__law_alike (.cons (.v 4) (.cons (.v 5) (.cons (.v 6) (.cons (.v 8) .nil))))) (.v 10)) (.cons (.ret (.c (.bool false)))
    .nil) .nil)
    (.cons (.asg (.nm 11) (.call c__law_due (.cons (.v 4) (.cons (.v 5) (.cons (.v 6) (.cons (.v 3) .nil))))))
    (.cons (.asg (.nm 12) (.call c__law_told (.cons (.v 4) (.cons (.v 5) (.cons (.v 6) (.cons (.v 8) .nil))))))
    (.cons (.ex (.call c__law_told (.cons (.tup (.cons (.c (.str "zero")) .nil)) (.cons (.tup (.cons (.c (.str "first")) (.cons (.tup (.cons (.c (.str "pair")) (.cons (.tup (.cons (.c (.str "nat")) .nil)) (.cons (.tup (.cons (.c (.str "zero")) .nil)) (.cons (.tup (.cons (.c (.str "zero")) .nil)) .nil))))) .nil))) (.cons (.c (.int 3)) (.cons (.v 8) .nil))))))
    (.cons (.ret (.cmp .eq (.v 12) (.v 11)))
    .nil)))))))))))))))
/- leads(thing, log, end, book): 0 thing, 1 log, 2 end, 3 book, 4 found -/
def m_leads (c_steps_of c_walked : Nat) (y_KeeperError n_KeeperError : List Nat) : Sms :=
    (.cons (.tryM (.cons (.asg (.nm 4) (.call c_walked (.cons (.v 0) (.cons (.v 1) (.cons (.v 3) .nil)))))
    .nil) (.cons y_KeeperError n_KeeperError (.cons (.ret (.c (.bool false)))
    .nil)
    .nil))
    (.cons (.ret (.and' (.cmp .eq (.v 4) (.v 2)) (.cmp .eq (.call c_steps_of (.cons (.v 2) (.cons (.v 3) .nil))) (.lst .nil))))
    .nil))
/- shows(one, other, told, book): 0 one, 1 other, 2 told, 3 book -/
def m_shows (c_parting c_leads : Nat) : Sms :=
    (.cons (.ift (.or' (.not' (.call c_leads (.cons (.v 0) (.cons (.ix (.v 2) (.c (.int 2))) (.cons (.ix (.v 2) (.c (.int 0))) (.cons (.v 3) .nil)))))) (.not' (.call c_leads (.cons (.v 1) (.cons (.ix (.v 2) (.c (.int 3))) (.cons (.ix (.v 2) (.c (.int 1))) (.cons (.v 3) .nil))))))) (.cons (.ret (.c (.bool false)))
    .nil) .nil)
    (.cons (.ret (.cmp .eq (.call c_parting (.cons (.ix (.v 2) (.c (.int 0))) (.cons (.ix (.v 2) (.c (.int 1))) .nil))) (.ix (.v 2) (.c (.int 4)))))
    .nil))
/- _law_parted(_law_script, _law_tape, _law_deep, _law_near, _law_pool_here, _law_way_here): 0 _law_script, 1 _law_tape, 2 _law_deep, 3 _law_near, 4 _law_pool_here, 5 _law_way_here, 6 _law_kind_here, 7 _law_first, 8 _law_second, 9 _law_word -/
def m_l_parted_v2 (c__law_number c__law_term c__law_like c__law_kind c__law_pair c__law_draw c__law_fun : Nat) : Sms :=
    (.cons (.ift (.cmp .eq (.v 5) (.c (.int 0))) (.cons (.ret (.tup (.cons (.c (.str "app")) (.cons (.call c__law_fun (.cons (.v 0) (.cons (.v 1) (.cons (.v 2) (.cons (.v 3) (.cons (.v 4) .nil)))))) (.cons (.call c__law_term (.cons (.v 0) (.cons (.v 1) (.cons (.bin .sub (.v 2) (.c (.int 1))) (.cons (.v 3) (.cons (.v 4) .nil)))))) .nil)))))
    .nil) .nil)
    (.cons (.ift (.cmp .eq (.v 5) (.c (.int 1))) (.cons (.asg (.nm 9) (.ix (.lst (.cons (.c (.str "first")) (.cons (.c (.str "second")) .nil))) (.call c__law_draw (.cons (.v 0) (.cons (.v 1) (.cons (.c (.int 2)) .nil))))))
    (.cons (.ret (.tup (.cons (.v 9) (.cons (.call c__law_pair (.cons (.v 0) (.cons (.v 1) (.cons (.v 2) (.cons (.v 3) (.cons (.v 4) .nil)))))) .nil))))
    .nil)) .nil)
    (.cons (.asg (.nm 6) (.call c__law_kind (.cons (.v 0) (.cons (.v 1) (.cons (.bin .sub (.v 2) (.c (.int 2))) (.cons (.bin .add (.v 3) (.c (.int 1))) (.cons (.v 4) .nil)))))))
    (.cons (.asg (.nm 7) (.call c__law_term (.cons (.v 0) (.cons (.v 1) (.cons (.bin .sub (.v 2) (.c (.int 1))) (.cons (.v 3) (.cons (.v 4) .nil)))))))
    (.cons (.ift (.cmp .eq (.v 5) (.c (.int 2))) (.cons (.ret (.tup (.cons (.c (.str "carry")) (.cons (.v 6) (.cons (.v 7) (.cons (.call c__law_like (.cons (.v 0) (.cons (.v 1) (.cons (.v 2) (.cons (.v 3) (.cons (.v 4) .nil)))))) .nil))))))
    .nil) .nil)
    (.cons (.asg (.nm 8) (.call c__law_term (.cons (.v 0) (.cons (.v 1) (.cons (.bin .sub (.v 2) (.c (.int 1))) (.cons (.v 3) (.cons (.v 4) .nil)))))))
    (.cons (.ret (.tup (.cons (.c (.str "rec")) (.cons (.v 6) (.cons (.v 7) (.cons (.v 8) (.cons (.call c__law_number (.cons (.v 0) (.cons (.v 1) (.cons (.v 2) (.cons (.v 3) (.cons (.v 4) .nil)))))) .nil)))))))
    .nil)))))))
/- _law_still(_law_script, _law_tape, _law_deep, _law_near, _law_pool_here, _law_way_here): 0 _law_script, 1 _law_tape, 2 _law_deep, 3 _law_near, 4 _law_pool_here, 5 _law_way_here, 6 _law_one, 7 _law_two, 8 _law_three -/
def m_l_still_v2 (c__law_kind c__law_term c__law_draw c__law_like c__law_pair c__law_fun : Nat) : Sms :=
    (.cons (.ift (.cmp .lt (.v 5) (.c (.int 2))) (.cons (.ret (.tup (.cons (.c (.str "next")) (.cons (.call c__law_term (.cons (.v 0) (.cons (.v 1) (.cons (.bin .sub (.v 2) (.c (.int 1))) (.cons (.v 3) (.cons (.v 4) .nil)))))) .nil))))
    .nil) .nil)
    (.cons (.ift (.cmp .eq (.v 5) (.c (.int 2))) (.cons (.ret (.call c__law_fun (.cons (.v 0) (.cons (.v 1) (.cons (.v 2) (.cons (.v 3) (.cons (.v 4) .nil)))))))
    .nil) .nil)
    (.cons (.ift (.cmp .eq (.v 5) (.c (.int 3))) (.cons (.ret (.call c__law_pair (.cons (.v 0) (.cons (.v 1) (.cons (.v 2) (.cons (.v 3) (.cons (.v 4) .nil)))))))
    .nil) .nil)
    (.cons (.ift (.cmp .eq (.v 5) (.c (.int 4))) (.cons (.ret (.call c__law_like (.cons (.v 0) (.cons (.v 1) (.cons (.v 2) (.cons (.v 3) (.cons (.v 4) .nil)))))))
    .nil) .nil)
    (.cons (.asg (.nm 6) (.call c__law_term (.cons (.v 0) (.cons (.v 1) (.cons (.bin .sub (.v 2) (.c (.int 1))) (.cons (.v 3) (.cons (.v 4) .nil)))))))
    (.cons (.ift (.cmp .eq (.v 5) (.c (.int 5))) (.cons (.ret (.tup (.cons (.c (.str "never")) (.cons (.call c__law_kind (.cons (.v 0) (.cons (.v 1) (.cons (.bin .sub (.v 2) (.c (.int 2))) (.cons (.v 3) (.cons (.v 4) .nil)))))) (.cons (.v 6) .nil)))))
    .nil) .nil)
    (.cons (.ift (.cmp .eq (.v 5) (.c (.int 6))) (.cons (.ret (.tup (.cons (.ix (.lst (.cons (.c (.str "first")) (.cons (.c (.str "second")) .nil))) (.call c__law_draw (.cons (.v 0) (.cons (.v 1) (.cons (.c (.int 2)) .nil))))) (.cons (.v 6) .nil))))
    .nil) .nil)
    (.cons (.asg (.nm 7) (.call c__law_term (.cons (.v 0) (.cons (.v 1) (.cons (.bin .sub (.v 2) (.c (.int 1))) (.cons (.v 3) (.cons (.v 4) .nil)))))))
    (.cons (.ift (.cmp .eq (.v 5) (.c (.int 7))) (.cons (.ret (.tup (.cons (.c (.str "app")) (.cons (.v 6) (.cons (.v 7) .nil)))))
    .nil) .nil)
    (.cons (.ift (.cmp .eq (.v 5) (.c (.int 8))) (.cons (.ret (.tup (.cons (.c (.str "carry")) (.cons (.call c__law_kind (.cons (.v 0) (.cons (.v 1) (.cons (.bin .sub (.v 2) (.c (.int 2))) (.cons (.bin .add (.v 3) (.c (.int 1))) (.cons (.v 4) .nil)))))) (.cons (.v 6) (.cons (.v 7) .nil))))))
    .nil) .nil)
    (.cons (.asg (.nm 8) (.call c__law_term (.cons (.v 0) (.cons (.v 1) (.cons (.bin .sub (.v 2) (.c (.int 1))) (.cons (.v 3) (.cons (.v 4) .nil)))))))
    (.cons (.ret (.tup (.cons (.c (.str "rec")) (.cons (.call c__law_kind (.cons (.v 0) (.cons (.v 1) (.cons (.bin .sub (.v 2) (.c (.int 2))) (.cons (.bin .add (.v 3) (.c (.int 1))) (.cons (.v 4) .nil)))))) (.cons (.v 6) (.cons (.v 7) (.cons (.v 8) .nil)))))))
    .nil))))))))))))
/- _law_way(_law_script, _law_tape, _law_thing_here, _law_book_here, _law_most): 0 _law_script, 1 _law_tape, 2 _law_thing_here, 3 _law_book_here, 4 _law_most, 5 _law_log, 6 _law_turn, 7 _law_rows_here, 8 _law_row -/
def m_l_way (c_stepped c__law_draw c_steps_of : Nat) (y_Great n_Great : List Nat) : Sms :=
    (.cons (.asg (.nm 5) (.lst .nil))
    (.cons (.for' (.nm 6) (.rng1 (.v 4)) (.cons (.asg (.nm 7) (.call c_steps_of (.cons (.v 2) (.cons (.v 3) .nil))))
    (.cons (.ift (.cmp .eq (.v 7) (.lst .nil)) (.cons (.ret (.tup (.cons (.v 2) (.cons (.v 5) .nil))))
    .nil) .nil)
    (.cons (.asg (.nm 8) (.ix (.v 7) (.bin .mod (.call c__law_draw (.cons (.v 0) (.cons (.v 1) (.cons (.c (.int 1000)) .nil)))) (.bi .len (.cons (.v 7) .nil)))))
    (.cons (.tryM (.cons (.asg (.nm 2) (.call c_stepped (.cons (.v 2) (.cons (.ix (.v 8) (.c (.int 0))) (.cons (.v 3) .nil)))))
    .nil) (.cons y_Great n_Great (.cons (.ret (.tup (.cons (.v 2) (.cons (.v 5) .nil))))
    .nil)
    .nil))
    (.cons (.ex (.mth .append (.v 5) (.cons (.v 8) .nil)))
    .nil))))))
    (.cons (.ret (.tup (.cons (.v 2) (.cons (.v 5) .nil))))
    .nil)))
/- _law_leads(_law_thing_here, _law_log, _law_end, _law_book_here): 0 _law_thing_here, 1 _law_log, 2 _law_end, 3 _law_book_here, 4 _law_place, 5 _law_rule_here -/
def m_l_leads (c_steps_of c_stepped : Nat) (y_Great n_Great : List Nat) : Sms :=
    (.cons (.for' (.tp [4, 5]) (.val (.v 1)) (.cons (.ift (.cmp .nin (.tup (.cons (.v 4) (.cons (.v 5) .nil))) (.call c_steps_of (.cons (.v 0) (.cons (.v 3) .nil)))) (.cons (.ret (.c (.bool false)))
    .nil) .nil)
    (.cons (.tryM (.cons (.asg (.nm 0) (.call c_stepped (.cons (.v 0) (.cons (.v 4) (.cons (.v 3) .nil)))))
    .nil) (.cons y_Great n_Great (.cons (.ret (.c (.bool false)))
    .nil)
    .nil))
    .nil)))
    (.cons (.ret (.and' (.cmp .eq (.v 0) (.v 2)) (.cmp .eq (.call c_steps_of (.cons (.v 2) (.cons (.v 3) .nil))) (.lst .nil))))
    .nil))
/- _law_partings(_law_one, _law_other): 0 _law_one, 1 _law_other, 2 _law_found, 3 _law_waiting, 4 _law_place, 5 _law_here, 6 _law_there, 7 _law_kids_here, 8 _law_step, 9 _law_number_here -/
def m_l_partings (c__law_kids : Nat) : Sms :=
    (.cons (.asg (.nm 2) (.lst .nil))
    (.cons (.asg (.nm 3) (.lst (.cons (.tup (.cons (.tup .nil) (.cons (.v 0) (.cons (.v 1) .nil)))) .nil)))
    (.cons (.while (.cmp .gt (.bi .len (.cons (.v 3) .nil)) (.c (.int 0))) (.cons (.asg (.tp [4, 5, 6]) (.mth .pop0 (.v 3) .nil))
    (.cons (.ift (.or' (.cmp .ne (.ix (.v 5) (.c (.int 0))) (.ix (.v 6) (.c (.int 0)))) (.and' (.cmp .inn (.ix (.v 5) (.c (.int 0))) (.tup (.cons (.c (.str "var")) (.cons (.c (.str "name")) .nil)))) (.cmp .ne (.ix (.v 5) (.c (.int 1))) (.ix (.v 6) (.c (.int 1)))))) (.cons (.ex (.mth .append (.v 2) (.cons (.v 4) .nil)))
    (.cons .cont
    .nil)) .nil)
    (.cons (.asg (.nm 7) (.call c__law_kids (.cons (.v 5) .nil)))
    (.cons (.for' (.nm 8) (.rng1 (.bi .len (.cons (.v 7) .nil))) (.cons (.asg (.nm 9) (.bin .sub (.bin .sub (.bi .len (.cons (.v 7) .nil)) (.c (.int 1))) (.v 8)))
    (.cons (.ex (.mth .append (.v 3) (.cons (.tup (.cons (.bin .add (.v 4) (.tup (.cons (.v 9) .nil))) (.cons (.ix (.v 7) (.v 9)) (.cons (.ix (.call c__law_kids (.cons (.v 6) .nil)) (.v 9)) .nil)))) .nil)))
    .nil)))
    .nil)))))
    (.cons (.ret (.v 2))
    .nil))))
/- _law_spoilt_log(_law_script, _law_tape, _law_log, _law_way_here): 0 _law_script, 1 _law_tape, 2 _law_log, 3 _law_way_here, 4 _law_at, 5 _law_words, 6 _law_row -/
def m_l_spoilt_log (c__law_draw : Nat) : Sms :=
    (.cons (.ift (.cmp .eq (.v 2) (.lst .nil)) (.cons (.ret (.v 2))
    .nil) .nil)
    (.cons (.asg (.nm 4) (.bin .mod (.call c__law_draw (.cons (.v 0) (.cons (.v 1) (.cons (.c (.int 1000)) .nil)))) (.bi .len (.cons (.v 2) .nil))))
    (.cons (.ift (.cmp .eq (.v 3) (.c (.int 1))) (.cons (.ret (.bin .add (.sl (.v 2) .non (.one (.v 4))) (.sl (.v 2) (.one (.bin .add (.v 4) (.c (.int 1)))) .non)))
    .nil) .nil)
    (.cons (.ift (.cmp .eq (.v 3) (.c (.int 2))) (.cons (.ret (.bin .add (.bin .add (.sl (.v 2) .non (.one (.v 4))) (.lst (.cons (.ix (.v 2) (.v 4)) .nil))) (.sl (.v 2) (.one (.v 4)) .non)))
    .nil) .nil)
    (.cons (.asg (.nm 5) (.lst (.cons (.c (.str "fun")) (.cons (.c (.str "zero")) (.cons (.c (.str "next")) (.cons (.c (.str "like")) (.cons (.c (.str "first")) (.cons (.c (.str "second")) (.cons (.c (.str "name")) .nil)))))))))
    (.cons (.asg (.nm 6) (.tup (.cons (.ix (.ix (.v 2) (.v 4)) (.c (.int 0))) (.cons (.ix (.v 5) (.call c__law_draw (.cons (.v 0) (.cons (.v 1) (.cons (.c (.int 7)) .nil))))) .nil))))
    (.cons (.ret (.bin .add (.bin .add (.sl (.v 2) .non (.one (.v 4))) (.lst (.cons (.v 6) .nil))) (.sl (.v 2) (.one (.bin .add (.v 4) (.c (.int 1)))) .non)))
    .nil)))))))
/- _law_spoilt(_law_script, _law_tape, _law_told_here): 0 _law_script, 1 _law_tape, 2 _law_told_here, 3 _law_way_here, 4 _law_side, 5 _law_parts, 6 _law_some -/
def m_l_spoilt_v3 (c__law_draw c__law_spoilt_log c__law_partings : Nat) : Sms :=
    (.cons (.asg (.nm 3) (.call c__law_draw (.cons (.v 0) (.cons (.v 1) (.cons (.c (.int 12)) .nil)))))
    (.cons (.asg (.nm 4) (.call c__law_draw (.cons (.v 0) (.cons (.v 1) (.cons (.c (.int 2)) .nil)))))
    (.cons (.asg (.nm 5) (.bi .lst (.cons (.v 2) .nil)))
    (.cons (.asg (.nm 6) (.call c__law_partings (.cons (.ix (.v 2) (.c (.int 0))) (.cons (.ix (.v 2) (.c (.int 1))) .nil))))
    (.cons (.ift (.cmp .eq (.v 3) (.c (.int 0))) (.cons (.setI (.v 5) (.v 4) (.ix (.v 2) (.bin .sub (.c (.int 1)) (.v 4))))
    .nil) .nil)
    (.cons (.ift (.cmp .inn (.v 3) (.tup (.cons (.c (.int 1)) (.cons (.c (.int 2)) (.cons (.c (.int 3)) .nil))))) (.cons (.setI (.v 5) (.bin .add (.c (.int 2)) (.v 4)) (.call c__law_spoilt_log (.cons (.v 0) (.cons (.v 1) (.cons (.bi .lst (.cons (.ix (.v 2) (.bin .add (.c (.int 2)) (.v 4))) .nil)) (.cons (.v 3) .nil))))))
    .nil) .nil)
    (.cons (.ift (.cmp .eq (.v 3) (.c (.int 4))) (.cons (.setI (.v 5) (.c (.int 4)) (.ix (.lst (.cons (.c .none) (.cons (.tup .nil) (.cons (.tup (.cons (.c (.int 0)) .nil)) (.cons (.tup (.cons (.c (.int 1)) (.cons (.c (.int 0)) .nil))) .nil))))) (.call c__law_draw (.cons (.v 0) (.cons (.v 1) (.cons (.c (.int 4)) .nil))))))
    .nil) .nil)
    (.cons (.ift (.and' (.cmp .eq (.v 3) (.c (.int 5))) (.cmp .isn (.ix (.v 2) (.c (.int 4))) (.c .none))) (.cons (.setI (.v 5) (.c (.int 4)) (.bin .add (.ix (.v 2) (.c (.int 4))) (.tup (.cons (.c (.int 0)) .nil))))
    .nil) .nil)
    (.cons (.ift (.and' (.cmp .eq (.v 3) (.c (.int 6))) (.cmp .isn (.ix (.v 2) (.c (.int 4))) (.c .none))) (.cons (.setI (.v 5) (.c (.int 4)) (.sl (.ix (.v 2) (.c (.int 4))) .non (.one (.neg (.c (.int 1))))))
    .nil) .nil)
    (.cons (.ift (.and' (.cmp .inn (.v 3) (.tup (.cons (.c (.int 7)) (.cons (.c (.int 8)) .nil)))) (.cmp .ne (.v 6) (.lst .nil))) (.cons (.setI (.v 5) (.c (.int 4)) (.ix (.v 6) (.bin .mod (.call c__law_draw (.cons (.v 0) (.cons (.v 1) (.cons (.c (.int 1000)) .nil)))) (.bi .len (.cons (.v 6) .nil)))))
    .nil) .nil)
    (.cons (.ret (.bi .tup (.cons (.v 5) .nil)))
    .nil)))))))))))
/- _law_over(_law_script, _law_tape): 0 _law_script, 1 _law_tape, 2 _law_twice, 3 _law_one, 4 _law_log -/
def m_l_over_v3 (c__law_draw c__law_sized : Nat) : Sms :=
    (.cons (.asg (.nm 2) (.tup (.cons (.c (.str "app")) (.cons (.tup (.cons (.c (.str "fun")) (.cons (.tup (.cons (.c (.str "nat")) .nil)) (.cons (.tup (.cons (.c (.str "app")) (.cons (.tup (.cons (.c (.str "var")) (.cons (.c (.int 0)) .nil))) (.cons (.tup (.cons (.c (.str "var")) (.cons (.c (.int 0)) .nil))) .nil)))) .nil)))) (.cons (.call c__law_sized (.cons (.c (.int 301)) .nil)) .nil)))))
    (.cons (.asg (.nm 3) (.tup (.cons (.c (.str "first")) (.cons (.tup (.cons (.c (.str "pair")) (.cons (.tup (.cons (.c (.str "nat")) .nil)) (.cons (.tup (.cons (.c (.str "zero")) .nil)) (.cons (.v 2) .nil))))) .nil))))
    (.cons (.asg (.nm 4) (.ix (.lst (.cons (.lst (.cons (.tup (.cons (.tup .nil) (.cons (.c (.str "first")) .nil))) .nil)) (.cons (.lst (.cons (.tup (.cons (.tup (.cons (.c (.int 0)) (.cons (.c (.int 2)) .nil))) (.cons (.c (.str "fun")) .nil))) (.cons (.tup (.cons (.tup .nil) (.cons (.c (.str "first")) .nil))) .nil))) .nil))) (.call c__law_draw (.cons (.v 0) (.cons (.v 1) (.cons (.c (.int 2)) .nil))))))
    (.cons (.ift (.cmp .eq (.call c__law_draw (.cons (.v 0) (.cons (.v 1) (.cons (.c (.int 2)) .nil)))) (.c (.int 0))) (.cons (.ret (.tup (.cons (.v 3) (.cons (.tup (.cons (.c (.str "zero")) .nil)) (.cons (.tup (.cons (.tup (.cons (.c (.str "zero")) .nil)) (.cons (.tup (.cons (.c (.str "zero")) .nil)) (.cons (.v 4) (.cons (.lst .nil) (.cons (.c .none) .nil)))))) .nil)))))
    .nil) .nil)
    (.cons (.ret (.tup (.cons (.tup (.cons (.c (.str "zero")) .nil)) (.cons (.v 3) (.cons (.tup (.cons (.tup (.cons (.c (.str "zero")) .nil)) (.cons (.tup (.cons (.c (.str "zero")) .nil)) (.cons (.lst .nil) (.cons (.v 4) (.cons (.c .none) .nil)))))) .nil)))))
    .nil)))))
/- _law_told(_law_script, _law_tape, _law_one, _law_other, _law_book_here, _law_most): 0 _law_script, 1 _law_tape, 2 _law_one, 3 _law_other, 4 _law_book_here, 5 _law_most, 6 _law_here, 7 _law_there -/
def m_l_told_v4 (c_parting c__law_way c__law_draw c_compared : Nat) (y_KeeperError n_KeeperError : List Nat) : Sms :=
    (.cons (.ift (.cmp .eq (.call c__law_draw (.cons (.v 0) (.cons (.v 1) (.cons (.c (.int 2)) .nil)))) (.c (.int 0))) (.cons (.tryM (.cons (.ret (.call c_compared (.cons (.v 2) (.cons (.v 3) (.cons (.v 5) (.cons (.v 4) .nil))))))
    .nil) (.cons y_KeeperError n_KeeperError (.cons (.ret (.c .none))
    .nil)
    .nil))
    .nil) .nil)
    (.cons (.asg (.nm 6) (.call c__law_way (.cons (.v 0) (.cons (.v 1) (.cons (.v 2) (.cons (.v 4) (.cons (.v 5) .nil)))))))
    (.cons (.asg (.nm 7) (.call c__law_way (.cons (.v 0) (.cons (.v 1) (.cons (.v 3) (.cons (.v 4) (.cons (.v 5) .nil)))))))
    (.cons (.ret (.tup (.cons (.ix (.v 6) (.c (.int 0))) (.cons (.ix (.v 7) (.c (.int 0))) (.cons (.ix (.v 6) (.c (.int 1))) (.cons (.ix (.v 7) (.c (.int 1))) (.cons (.call c_parting (.cons (.ix (.v 6) (.c (.int 0))) (.cons (.ix (.v 7) (.c (.int 0))) .nil))) .nil)))))))
    .nil))))
/- _law_right(_law_one, _law_other, _law_told_here, _law_book_here): 0 _law_one, 1 _law_other, 2 _law_told_here, 3 _law_book_here -/
def m_l_right_v2 (c_parting c__law_leads : Nat) : Sms :=
    (.cons (.ift (.not' (.call c__law_leads (.cons (.v 0) (.cons (.ix (.v 2) (.c (.int 2))) (.cons (.ix (.v 2) (.c (.int 0))) (.cons (.v 3) .nil)))))) (.cons (.ret (.c (.bool false)))
    .nil) .nil)
    (.cons (.ift (.not' (.call c__law_leads (.cons (.v 1) (.cons (.ix (.v 2) (.c (.int 3))) (.cons (.ix (.v 2) (.c (.int 1))) (.cons (.v 3) .nil)))))) (.cons (.ret (.c (.bool false)))
    .nil) .nil)
    (.cons (.ret (.cmp .eq (.call c_parting (.cons (.ix (.v 2) (.c (.int 0))) (.cons (.ix (.v 2) (.c (.int 1))) .nil))) (.ix (.v 2) (.c (.int 4)))))
    .nil)))
/- _law_drawn(_law_script, _law_tape, _law_pool_here, _law_book_here): 0 _law_script, 1 _law_tape, 2 _law_pool_here, 3 _law_book_here, 4 _law_near, 5 _law_deep, 6 _law_word, 7 _law_one, 8 _law_other, 9 _law_way_here -/
def m_l_drawn_v2 (c__law_way c__law_draw c__law_measured c__law_kind c__law_term : Nat) : Sms :=
    (.cons (.asg (.nm 4) (.ix (.lst (.cons (.c (.int 0)) (.cons (.c (.int 3)) .nil))) (.call c__law_draw (.cons (.v 0) (.cons (.v 1) (.cons (.c (.int 2)) .nil))))))
    (.cons (.asg (.nm 5) (.bin .add (.c (.int 1)) (.call c__law_draw (.cons (.v 0) (.cons (.v 1) (.cons (.c (.int 4)) .nil))))))
    (.cons (.asg (.nm 6) (.call c__law_draw (.cons (.v 0) (.cons (.v 1) (.cons (.c (.int 5)) .nil)))))
    (.cons (.asg (.nm 7) (.call c__law_term (.cons (.v 0) (.cons (.v 1) (.cons (.v 5) (.cons (.v 4) (.cons (.v 2) .nil)))))))
    (.cons (.asg (.nm 8) (.call c__law_term (.cons (.v 0) (.cons (.v 1) (.cons (.v 5) (.cons (.v 4) (.cons (.v 2) .nil)))))))
    (.cons (.ift (.cmp .eq (.v 6) (.c (.int 0))) (.cons (.asg (.nm 7) (.call c__law_kind (.cons (.v 0) (.cons (.v 1) (.cons (.v 5) (.cons (.v 4) (.cons (.v 2) .nil)))))))
    (.cons (.asg (.nm 8) (.call c__law_kind (.cons (.v 0) (.cons (.v 1) (.cons (.v 5) (.cons (.v 4) (.cons (.v 2) .nil)))))))
    .nil)) .nil)
    (.cons (.ift (.cmp .gt (.bin .add (.ix (.call c__law_measured (.cons (.v 7) .nil)) (.c (.int 0))) (.ix (.call c__law_measured (.cons (.v 8) .nil)) (.c (.int 0)))) (.c (.int 280))) (.cons (.ret (.tup (.cons (.tup (.cons (.c (.str "zero")) .nil)) (.cons (.tup (.cons (.c (.str "zero")) .nil)) .nil))))
    .nil) .nil)
    (.cons (.asg (.nm 9) (.call c__law_draw (.cons (.v 0) (.cons (.v 1) (.cons (.c (.int 6)) .nil)))))
    (.cons (.ift (.cmp .gt (.v 9) (.c (.int 2))) (.cons (.asg (.nm 8) (.ix (.call c__law_way (.cons (.v 0) (.cons (.v 1) (.cons (.v 7) (.cons (.v 3) (.cons (.c (.int 3)) .nil)))))) (.c (.int 0))))
    .nil) .nil)
    (.cons (.ift (.and' (.cmp .lt (.v 9) (.c (.int 2))) (.cmp .eq (.v 6) (.c (.int 0)))) (.cons (.ret (.tup (.cons (.tup (.cons (.c (.str "all")) (.cons (.v 7) (.cons (.v 8) .nil)))) (.cons (.tup (.cons (.c (.str "all")) (.cons (.v 8) (.cons (.v 7) .nil)))) .nil))))
    .nil) .nil)
    (.cons (.ift (.cmp .lt (.v 9) (.c (.int 2))) (.cons (.ret (.tup (.cons (.tup (.cons (.c (.str "pair")) (.cons (.tup (.cons (.c (.str "nat")) .nil)) (.cons (.v 7) (.cons (.v 8) .nil))))) (.cons (.tup (.cons (.c (.str "pair")) (.cons (.tup (.cons (.c (.str "nat")) .nil)) (.cons (.v 8) (.cons (.v 7) .nil))))) .nil))))
    .nil) .nil)
    (.cons (.ret (.tup (.cons (.v 7) (.cons (.v 8) .nil))))
    .nil))))))))))))
/- law(_law_script): 0 _law_script, 1 _law_tape, 2 _law_pool_here, 3 _law_book_here, 4 _law_one, 5 _law_other, 6 _law_most, 7 _law_told_here, 8 _law_due, 9 _law_handed, 10 _law_found, 11 _law_last -/
def m_law_v14 (c_shows c__law_right c__law_spoilt c__law_draw c__law_over c__law_told c__law_chain c__law_drawn c__law_book c__law_pool : Nat) : Sms :=
    (.cons (.asg (.nm 1) (.lst (.cons (.c (.int 0)) .nil)))
    (.cons (.asg (.nm 2) (.call c__law_pool (.cons (.v 0) (.cons (.v 1) .nil))))
    (.cons (.asg (.nm 3) (.call c__law_book (.cons (.v 0) (.cons (.v 1) (.cons (.v 2) .nil)))))
    (.cons (.asg (.tp [4, 5]) (.call c__law_drawn (.cons (.v 0) (.cons (.v 1) (.cons (.v 2) (.cons (.v 3) .nil))))))
    (.cons (.asg (.nm 6) (.c (.int 12)))
    (.cons (.ift (.cmp .eq (.call c__law_draw (.cons (.v 0) (.cons (.v 1) (.cons (.c (.int 9)) .nil)))) (.c (.int 0))) (.cons (.asg (.nm 11) (.call c__law_chain (.cons (.call c__law_draw (.cons (.v 0) (.cons (.v 1) (.cons (.c (.int 100)) .nil)))) (.cons (.v 3) .nil))))
    (.cons (.setI (.v 3) (.v 11) (.tup (.cons (.tup (.cons (.c (.str "nat")) .nil)) (.cons (.tup (.cons (.c (.str "zero")) .nil)) .nil))))
    (.cons (.asg (.nm 4) (.tup (.cons (.c (.str "name")) (.cons (.c (.str "qaa")) .nil))))
    (.cons (.asg (.nm 5) (.ix (.lst (.cons (.tup (.cons (.c (.str "next")) (.cons (.v 4) .nil))) (.cons (.tup (.cons (.c (.str "name")) (.cons (.c (.str "qab")) .nil))) .nil))) (.call c__law_draw (.cons (.v 0) (.cons (.v 1) (.cons (.c (.int 2)) .nil))))))
    (.cons (.asg (.nm 6) (.c (.int 101)))
    .nil))))) .nil)
    (.cons (.asg (.nm 7) (.call c__law_told (.cons (.v 0) (.cons (.v 1) (.cons (.v 4) (.cons (.v 5) (.cons (.v 3) (.cons (.v 6) .nil))))))))
    (.cons (.ift (.cmp .eq (.call c__law_draw (.cons (.v 0) (.cons (.v 1) (.cons (.c (.int 9)) .nil)))) (.c (.int 0))) (.cons (.asg (.tp [4, 5, 7]) (.call c__law_over (.cons (.v 0) (.cons (.v 1) .nil))))
    .nil) (.cons (.ift (.cmp .is (.v 7) (.c .none)) (.cons (.ret (.c (.bool true)))
    .nil) .nil)
    .nil))
    (.cons (.asg (.nm 7) (.call c__law_spoilt (.cons (.v 0) (.cons (.v 1) (.cons (.v 7) .nil)))))
    (.cons (.asg (.nm 8) (.call c__law_right (.cons (.v 4) (.cons (.v 5) (.cons (.v 7) (.cons (.v 3) .nil))))))
    (.cons (.asg (.nm 9) (.tup (.cons (.ix (.v 7) (.c (.int 0))) (.cons (.ix (.v 7) (.c (.int 1))) (.cons (.bi .lst (.cons (.ix (.v 7) (.c (.int 2))) .nil)) (.cons (.bi .lst (.cons (.ix (.v 7) (.c (.int 3))) .nil)) (.cons (.ix (.v 7) (.c (.int 4))) .nil)))))))
    (.cons (.asg (.nm 10) (.call c_shows (.cons (.v 4) (.cons (.v 5) (.cons (.v 9) (.cons (.bi .dict (.cons (.v 3) .nil)) .nil))))))
    (.cons (.ift (.or' (.not' (.isi (.v 10) .bool)) (.or' (.cmp .ne (.v 10) (.v 8)) (.cmp .ne (.v 9) (.v 7)))) (.cons (.ret (.c (.bool false)))
    .nil) .nil)
    (.cons (.ift (.cmp .ne (.call c_shows (.cons (.v 5) (.cons (.v 4) (.cons (.v 9) (.cons (.v 3) .nil))))) (.call c__law_right (.cons (.v 5) (.cons (.v 4) (.cons (.v 7) (.cons (.v 3) .nil)))))) (.cons (.ret (.c (.bool false)))
    .nil) .nil)
    (.cons (.ret (.cmp .eq (.call c_shows (.cons (.v 4) (.cons (.v 5) (.cons (.v 9) (.cons (.v 3) .nil))))) (.v 8)))
    .nil)))))))))))))))
/- _law_way(_law_script, _law_tape, _law_thing_here, _law_book_here): 0 _law_script, 1 _law_tape, 2 _law_thing_here, 3 _law_book_here, 4 _law_turn, 5 _law_rows_here -/
def m_l_way_v2 (c__law_draw c_stepped c_steps_of : Nat) (y_Great n_Great : List Nat) : Sms :=
    (.cons (.for' (.nm 4) (.rng1 (.call c__law_draw (.cons (.v 0) (.cons (.v 1) (.cons (.c (.int 5)) .nil))))) (.cons (.asg (.nm 5) (.call c_steps_of (.cons (.v 2) (.cons (.v 3) .nil))))
    (.cons (.ift (.cmp .eq (.v 5) (.lst .nil)) (.cons (.ret (.v 2))
    .nil) .nil)
    (.cons (.tryM (.cons (.asg (.nm 2) (.call c_stepped (.cons (.v 2) (.cons (.ix (.ix (.v 5) (.bin .mod (.call c__law_draw (.cons (.v 0) (.cons (.v 1) (.cons (.c (.int 1000)) .nil)))) (.bi .len (.cons (.v 5) .nil)))) (.c (.int 0))) (.cons (.v 3) .nil)))))
    .nil) (.cons y_Great n_Great (.cons (.ret (.v 2))
    .nil)
    .nil))
    .nil))))
    (.cons (.ret (.v 2))
    .nil))
/- _law_told(_law_one, _law_other, _law_book_here): 0 _law_one, 1 _law_other, 2 _law_book_here -/
def m_l_told_v5 (c_compared : Nat) (y_Dry n_Dry y_Great n_Great : List Nat) : Sms :=
    (.cons (.tryM (.cons (.ret (.call c_compared (.cons (.v 0) (.cons (.v 1) (.cons (.c (.int 16)) (.cons (.v 2) .nil))))))
    .nil) (.cons y_Dry n_Dry (.cons (.ret (.c .none))
    .nil)
    (.cons y_Great n_Great (.cons (.ret (.c .none))
    .nil)
    .nil)))
    .nil)
/- _law_right(_law_one, _law_other, _law_told_here, _law_book_here): 0 _law_one, 1 _law_other, 2 _law_told_here, 3 _law_book_here, 4 _law_place, 5 _law_here, 6 _law_there, 7 _law_k -/
def m_l_right_v3 (c_at_place c_shows : Nat) : Sms :=
    (.cons (.ift (.cmp .is (.v 2) (.c .none)) (.cons (.ret (.c (.bool true)))
    .nil) .nil)
    (.cons (.ift (.cmp .isn (.call c_shows (.cons (.v 0) (.cons (.v 1) (.cons (.v 2) (.cons (.v 3) .nil))))) (.c (.bool true))) (.cons (.ret (.c (.bool false)))
    .nil) .nil)
    (.cons (.ift (.cmp .is (.ix (.v 2) (.c (.int 4))) (.c .none)) (.cons (.ret (.cmp .eq (.ix (.v 2) (.c (.int 0))) (.ix (.v 2) (.c (.int 1)))))
    .nil) .nil)
    (.cons (.asg (.nm 4) (.ix (.v 2) (.c (.int 4))))
    (.cons (.asg (.nm 5) (.call c_at_place (.cons (.ix (.v 2) (.c (.int 0))) (.cons (.v 4) .nil))))
    (.cons (.asg (.nm 6) (.call c_at_place (.cons (.ix (.v 2) (.c (.int 1))) (.cons (.v 4) .nil))))
    (.cons (.ift (.and' (.cmp .eq (.ix (.v 5) (.c (.int 0))) (.ix (.v 6) (.c (.int 0)))) (.or' (.cmp .nin (.ix (.v 5) (.c (.int 0))) (.tup (.cons (.c (.str "var")) (.cons (.c (.str "name")) .nil)))) (.cmp .eq (.ix (.v 5) (.c (.int 1))) (.ix (.v 6) (.c (.int 1)))))) (.cons (.ret (.c (.bool false)))
    .nil) .nil)
    (.cons (.for' (.nm 7) (.rng1 (.bi .len (.cons (.v 4) .nil))) (.cons (.ift (.cmp .ne (.ix (.call c_at_place (.cons (.ix (.v 2) (.c (.int 0))) (.cons (.sl (.v 4) .non (.one (.v 7))) .nil))) (.c (.int 0))) (.ix (.call c_at_place (.cons (.ix (.v 2) (.c (.int 1))) (.cons (.sl (.v 4) .non (.one (.v 7))) .nil))) (.c (.int 0)))) (.cons (.ret (.c (.bool false)))
    .nil) .nil)
    .nil))
    (.cons (.ret (.cmp .ne (.ix (.v 2) (.c (.int 0))) (.ix (.v 2) (.c (.int 1)))))
    .nil)))))))))
/- _law_changed(_law_script, _law_tape, _law_thing_here, _law_pool_here): 0 _law_script, 1 _law_tape, 2 _law_thing_here, 3 _law_pool_here, 4 _law_rows_here, 5 _law_row, 6 _law_made, 7 _law_new -/
def m_l_changed_v2 (c__law_great c__law_with c__law_kind c__law_term c__law_draw c__law_rows : Nat) : Sms :=
    (.cons (.asg (.nm 4) (.call c__law_rows (.cons (.v 2) (.cons (.dct [] .nil) .nil))))
    (.cons (.asg (.nm 5) (.ix (.v 4) (.bin .mod (.call c__law_draw (.cons (.v 0) (.cons (.v 1) (.cons (.bin .pow (.c (.int 10)) (.c (.int 6))) .nil)))) (.bi .len (.cons (.v 4) .nil)))))
    (.cons (.ift (.cmp .inn (.ix (.ix (.v 5) (.c (.int 1))) (.c (.int 0))) (.tup (.cons (.c (.str "nat")) (.cons (.c (.str "none")) (.cons (.c (.str "all")) (.cons (.c (.str "some")) (.cons (.c (.str "same")) .nil))))))) (.cons (.asg (.nm 7) (.call c__law_kind (.cons (.v 0) (.cons (.v 1) (.cons (.c (.int 1)) (.cons (.c (.int 2)) (.cons (.v 3) .nil)))))))
    .nil) (.cons (.asg (.nm 7) (.call c__law_term (.cons (.v 0) (.cons (.v 1) (.cons (.c (.int 1)) (.cons (.c (.int 2)) (.cons (.v 3) .nil)))))))
    .nil))
    (.cons (.asg (.nm 6) (.call c__law_with (.cons (.v 2) (.cons (.ix (.v 5) (.c (.int 0))) (.cons (.v 7) .nil)))))
    (.cons (.ift (.call c__law_great (.cons (.v 6) .nil)) (.cons (.ret (.v 2))
    .nil) .nil)
    (.cons (.ret (.v 6))
    .nil))))))
/- law(_law_script): 0 _law_script, 1 _law_tape, 2 _law_pool_here, 3 _law_book_here, 4 _law_thing_here, 5 _law_one, 6 _law_other, 7 _law_told_here, 8 _law_third, 9 _law_near, 10 _law_far -/
def m_law_v15 (c__law_right c__law_told c__law_changed c_alike c__law_way c__law_thing c__law_draw c__law_book c__law_pool : Nat) : Sms :=
    (.cons (.asg (.nm 1) (.lst (.cons (.c (.int 0)) .nil)))
    (.cons (.asg (.nm 2) (.call c__law_pool (.cons (.v 0) (.cons (.v 1) .nil))))
    (.cons (.asg (.nm 3) (.call c__law_book (.cons (.v 0) (.cons (.v 1) (.cons (.v 2) .nil)))))
    (.cons (.asg (.nm 4) (.call c__law_thing (.cons (.v 0) (.cons (.v 1) (.cons (.bin .add (.c (.int 1)) (.call c__law_draw (.cons (.v 0) (.cons (.v 1) (.cons (.c (.int 4)) .nil))))) (.cons (.ix (.lst (.cons (.c (.int 0)) (.cons (.c (.int 3)) (.cons (.c (.int 90)) .nil)))) (.call c__law_draw (.cons (.v 0) (.cons (.v 1) (.cons (.c (.int 3)) .nil))))) (.cons (.v 2) .nil)))))))
    (.cons (.asg (.nm 5) (.call c__law_way (.cons (.v 0) (.cons (.v 1) (.cons (.v 4) (.cons (.v 3) .nil))))))
    (.cons (.asg (.nm 6) (.call c__law_way (.cons (.v 0) (.cons (.v 1) (.cons (.v 4) (.cons (.v 3) .nil))))))
    (.cons (.asg (.nm 7) (.call c__law_told (.cons (.v 5) (.cons (.v 6) (.cons (.v 3) .nil)))))
    (.cons (.ift (.and' (.cmp .isn (.v 7) (.c .none)) (.or' (.cmp .isn (.ix (.v 7) (.c (.int 4))) (.c .none)) (.cmp .isn (.call c_alike (.cons (.v 5) (.cons (.v 6) (.cons (.c (.int 16)) (.cons (.v 3) .nil))))) (.c (.bool true))))) (.cons (.ret (.c (.bool false)))
    .nil) .nil)
    (.cons (.ift (.and' (.cmp .isn (.v 7) (.c .none)) (.cmp .isn (.call c_alike (.cons (.v 6) (.cons (.v 6) (.cons (.c (.int 16)) (.cons (.v 3) .nil))))) (.c (.bool true)))) (.cons (.ret (.c (.bool false)))
    .nil) .nil)
    (.cons (.asg (.nm 8) (.call c__law_changed (.cons (.v 0) (.cons (.v 1) (.cons (.v 6) (.cons (.v 2) .nil))))))
    (.cons (.asg (.nm 9) (.call c__law_told (.cons (.v 5) (.cons (.v 8) (.cons (.v 3) .nil)))))
    (.cons (.asg (.nm 10) (.call c__law_told (.cons (.v 8) (.cons (.v 6) (.cons (.v 3) .nil)))))
    (.cons (.ift (.or' (.not' (.call c__law_right (.cons (.v 5) (.cons (.v 6) (.cons (.v 7) (.cons (.v 3) .nil)))))) (.not' (.call c__law_right (.cons (.v 5) (.cons (.v 8) (.cons (.v 9) (.cons (.v 3) .nil))))))) (.cons (.ret (.c (.bool false)))
    .nil) .nil)
    (.cons (.ift (.not' (.call c__law_right (.cons (.v 8) (.cons (.v 6) (.cons (.v 10) (.cons (.v 3) .nil)))))) (.cons (.ret (.c (.bool false)))
    .nil) .nil)
    (.cons (.ift (.or' (.cmp .is (.v 7) (.c .none)) (.or' (.cmp .is (.v 9) (.c .none)) (.cmp .is (.v 10) (.c .none)))) (.cons (.ret (.c (.bool true)))
    .nil) .nil)
    (.cons (.ret (.and' (.cmp .eq (.cmp .is (.ix (.v 9) (.c (.int 4))) (.c .none)) (.cmp .is (.ix (.v 10) (.c (.int 4))) (.c .none))) (.or' (.cmp .is (.ix (.v 9) (.c (.int 4))) (.c .none)) (.cmp .eq (.ix (.v 9) (.c (.int 4))) (.ix (.v 10) (.c (.int 4)))))))
    .nil))))))))))))))))
/- is_kind(thing): 0 thing -/
def m_is_kind (c_knots_if : Nat) : Sms :=
    (.cons (.ret (.cmp .gt (.call c_knots_if (.cons (.v 0) (.cons (.c (.str "k")) (.cons (.c (.int 40)) .nil)))) (.c (.int 0))))
    .nil)
/- _law_end(_law_thing_here, _law_book_here): 0 _law_thing_here, 1 _law_book_here -/
def m_l_end (c_normal : Nat) (y_Dry n_Dry y_Great n_Great : List Nat) : Sms :=
    (.cons (.tryM (.cons (.ret (.lst (.cons (.ix (.call c_normal (.cons (.v 0) (.cons (.c (.int 40)) (.cons (.v 1) .nil)))) (.c (.int 0))) .nil)))
    .nil) (.cons y_Dry n_Dry (.cons (.ret (.lst .nil))
    .nil)
    (.cons y_Great n_Great (.cons (.ret (.lst .nil))
    .nil)
    .nil)))
    .nil)
/- law(_law_script): 0 _law_script, 1 _law_tape, 2 _law_pool_here, 3 _law_book_here, 4 _law_thing_here, 5 _law_end_here, 6 _law_now, 7 _law_turn, 8 _law_last, 9 _law_rows_here, 10 _law_other -/
def m_law_v9 (c__law_end c__law_draw c_is_kind c_is_term c_stepped c_steps_of c__law_thing c__law_book c__law_pool : Nat) (y_Great n_Great : List Nat) : Sms :=
    (.cons (.asg (.nm 1) (.lst (.cons (.c (.int 0)) .nil)))
    (.cons (.asg (.nm 2) (.call c__law_pool (.cons (.v 0) (.cons (.v 1) .nil))))
    (.cons (.asg (.nm 3) (.call c__law_book (.cons (.v 0) (.cons (.v 1) (.cons (.v 2) .nil)))))
    (.cons (.asg (.nm 4) (.call c__law_thing (.cons (.v 0) (.cons (.v 1) (.cons (.bin .add (.c (.int 1)) (.call c__law_draw (.cons (.v 0) (.cons (.v 1) (.cons (.c (.int 5)) .nil))))) (.cons (.ix (.lst (.cons (.c (.int 0)) (.cons (.c (.int 3)) (.cons (.c (.int 90)) .nil)))) (.call c__law_draw (.cons (.v 0) (.cons (.v 1) (.cons (.c (.int 3)) .nil))))) (.cons (.v 2) .nil)))))))
    (.cons (.asg (.nm 5) (.call c__law_end (.cons (.v 4) (.cons (.v 3) .nil))))
    (.cons (.asg (.nm 6) (.v 4))
    (.cons (.for' (.nm 7) (.rng1 (.call c__law_draw (.cons (.v 0) (.cons (.v 1) (.cons (.c (.int 9)) .nil))))) (.cons (.asg (.nm 9) (.call c_steps_of (.cons (.v 6) (.cons (.v 3) .nil))))
    (.cons (.ift (.cmp .eq (.v 9) (.lst .nil)) (.cons (.ret (.or' (.cmp .eq (.v 5) (.lst .nil)) (.cmp .eq (.v 5) (.lst (.cons (.v 6) .nil)))))
    .nil) .nil)
    (.cons (.tryM (.cons (.asg (.nm 10) (.call c_stepped (.cons (.v 6) (.cons (.ix (.ix (.v 9) (.bin .mod (.call c__law_draw (.cons (.v 0) (.cons (.v 1) (.cons (.c (.int 1000)) .nil)))) (.bi .len (.cons (.v 9) .nil)))) (.c (.int 0))) (.cons (.v 3) .nil)))))
    .nil) (.cons y_Great n_Great (.cons (.ret (.c (.bool true)))
    .nil)
    .nil))
    (.cons (.ift (.or' (.cmp .ne (.call c_is_term (.cons (.v 4) .nil)) (.call c_is_term (.cons (.v 10) .nil))) (.cmp .ne (.call c_is_kind (.cons (.v 4) .nil)) (.call c_is_kind (.cons (.v 10) .nil)))) (.cons (.ret (.c (.bool false)))
    .nil) .nil)
    (.cons (.ift (.and' (.call c_is_kind (.cons (.v 4) .nil)) (.cmp .ne (.ix (.v 10) (.c (.int 0))) (.ix (.v 4) (.c (.int 0))))) (.cons (.ret (.c (.bool false)))
    .nil) .nil)
    (.cons (.asg (.nm 6) (.v 10))
    .nil)))))))
    (.cons (.asg (.nm 8) (.call c__law_end (.cons (.v 6) (.cons (.v 3) .nil))))
    (.cons (.ret (.or' (.cmp .eq (.v 5) (.lst .nil)) (.or' (.cmp .eq (.v 8) (.lst .nil)) (.cmp .eq (.v 5) (.v 8)))))
    .nil)))))))))
/- _law_measured(_law_thing): 0 _law_thing, 1 _law_knots, 2 _law_deep, 3 _law_most, 4 _law_kid, 5 _law_told_here -/
def m_l_measured_v2 (c__law_kids c__law_measured : Nat) : Sms :=
    (.cons (.asg (.nm 1) (.c (.int 1)))
    (.cons (.asg (.nm 2) (.c (.int 0)))
    (.cons (.asg (.nm 3) (.neg (.c (.int 1))))
    (.cons (.ift (.cmp .eq (.ix (.v 0) (.c (.int 0))) (.c (.str "var"))) (.cons (.asg (.nm 3) (.ix (.v 0) (.c (.int 1))))
    .nil) .nil)
    (.cons (.for' (.nm 4) (.val (.call c__law_kids (.cons (.v 0) .nil))) (.cons (.asg (.nm 5) (.call c__law_measured (.cons (.v 4) .nil)))
    (.cons (.asg (.nm 1) (.bin .add (.v 1) (.ix (.v 5) (.c (.int 0)))))
    (.cons (.asg (.nm 2) (.bi .max2 (.cons (.v 2) (.cons (.ix (.v 5) (.c (.int 1))) .nil))))
    (.cons (.asg (.nm 3) (.bi .max2 (.cons (.v 3) (.cons (.ix (.v 5) (.c (.int 2))) .nil))))
    .nil)))))
    (.cons (.ret (.tup (.cons (.v 1) (.cons (.bin .add (.v 2) (.c (.int 1))) (.cons (.v 3) .nil)))))
    .nil))))))
/- _law_great(_law_thing): 0 _law_thing, 1 _law_told_here -/
def m_l_great_v3 (c__law_measured : Nat) : Sms :=
    (.cons (.asg (.nm 1) (.call c__law_measured (.cons (.v 0) .nil)))
    (.cons (.ret (.or' (.cmp .gt (.ix (.v 1) (.c (.int 0))) (.c (.int 600))) (.or' (.cmp .gt (.ix (.v 1) (.c (.int 1))) (.c (.int 40))) (.cmp .gt (.ix (.v 1) (.c (.int 2))) (.c (.int 99))))))
    .nil))
/- _law_kids(_law_thing): 0 _law_thing -/
def m_l_kids_v3 : Sms :=
    (.cons (.ift (.cmp .inn (.ix (.v 0) (.c (.int 0))) (.tup (.cons (.c (.str "var")) (.cons (.c (.str "name")) .nil)))) (.cons (.ret (.lst .nil))
    .nil) .nil)
    (.cons (.ret (.bi .lst (.cons (.sl (.v 0) (.one (.c (.int 1))) .non) .nil)))
    .nil))
/- _law_nexts(_law_many, _law_thing): 0 _law_many, 1 _law_thing, 2 _law_k -/
def m_l_nexts : Sms :=
    (.cons (.for' (.nm 2) (.rng1 (.v 0)) (.cons (.asg (.nm 1) (.tup (.cons (.c (.str "next")) (.cons (.v 1) .nil))))
    .nil))
    (.cons (.ret (.v 1))
    .nil))
/- _law_word_by(_law_cell): 0 _law_cell, 1 _law_letters, 2 _law_k -/
def m_l_word_by (c__law_named : Nat) : Sms :=
    (.cons (.asg (.nm 1) (.c (.str "abcdefghijklmnopqrstuvwxyz")))
    (.cons (.ret (.call c__law_named (.cons (.mth .join (.c (.str "")) (.cons (.comp 2 (.rng1 (.bin .add (.c (.int 1)) (.bin .mod (.v 0) (.c (.int 12))))) .non (.ix (.v 1) (.bin .mod (.bin .add (.bin .fdiv (.v 0) (.c (.int 12))) (.bin .mul (.c (.int 7)) (.v 2))) (.c (.int 26))))) .nil)) .nil)))
    .nil))
/- _law_built(_law_script, _law_tape, _law_word_here): 0 _law_script, 1 _law_tape, 2 _law_word_here, 3 _law_way, 4 _law_many, 5 _law_less, 6 _law_book, 7 _law_part, 8 _law_step, 9 _law_base, 10 _law_below, 11 _law_one, 12 _law_deep, 13 _law_here, 14 _law_number -/
def m_l_built (c__law_sized c__law_nexts c__law_draw : Nat) : Sms :=
    (.cons (.asg (.nm 3) (.call c__law_draw (.cons (.v 0) (.cons (.v 1) (.cons (.c (.int 5)) .nil)))))
    (.cons (.asg (.nm 4) (.bin .add (.c (.int 290)) (.call c__law_draw (.cons (.v 0) (.cons (.v 1) (.cons (.c (.int 11)) .nil))))))
    (.cons (.asg (.nm 5) (.call c__law_draw (.cons (.v 0) (.cons (.v 1) (.cons (.c (.int 3)) .nil)))))
    (.cons (.asg (.nm 6) (.dct [] .nil))
    (.cons (.ift (.cmp .eq (.v 3) (.c (.int 0))) (.cons (.asg (.nm 8) (.call c__law_sized (.cons (.v 4) .nil)))
    (.cons (.asg (.nm 9) (.call c__law_nexts (.cons (.v 5) (.cons (.tup (.cons (.c (.str "zero")) .nil)) .nil))))
    (.cons (.asg (.nm 10) (.tup (.cons (.c (.str "rec")) (.cons (.tup (.cons (.c (.str "nat")) .nil)) (.cons (.v 9) (.cons (.v 8) (.cons (.tup (.cons (.c (.str "zero")) .nil)) .nil)))))))
    (.cons (.asg (.nm 11) (.tup (.cons (.c (.str "rec")) (.cons (.tup (.cons (.c (.str "nat")) .nil)) (.cons (.v 9) (.cons (.v 8) (.cons (.tup (.cons (.c (.str "next")) (.cons (.tup (.cons (.c (.str "zero")) .nil)) .nil))) .nil)))))))
    (.cons (.ret (.tup (.cons (.v 11) (.cons (.tup (.cons (.c (.str "app")) (.cons (.tup (.cons (.c (.str "app")) (.cons (.v 8) (.cons (.tup (.cons (.c (.str "zero")) .nil)) .nil)))) (.cons (.v 10) .nil)))) (.cons (.c (.str "next")) (.cons (.v 6) .nil))))))
    .nil))))) .nil)
    (.cons (.ift (.cmp .eq (.v 3) (.c (.int 1))) (.cons (.asg (.nm 12) (.bin .add (.c (.int 15)) (.call c__law_draw (.cons (.v 0) (.cons (.v 1) (.cons (.c (.int 8)) .nil))))))
    (.cons (.asg (.nm 13) (.call c__law_nexts (.cons (.bin .add (.bin .sub (.v 4) (.c (.int 290))) (.c (.int 12))) (.cons (.tup (.cons (.c (.str "zero")) .nil)) .nil))))
    (.cons (.asg (.nm 11) (.tup (.cons (.c (.str "app")) (.cons (.tup (.cons (.c (.str "fun")) (.cons (.tup (.cons (.c (.str "nat")) .nil)) (.cons (.call c__law_nexts (.cons (.v 12) (.cons (.tup (.cons (.c (.str "var")) (.cons (.c (.int 0)) .nil))) .nil))) .nil)))) (.cons (.v 13) .nil)))))
    (.cons (.ret (.tup (.cons (.v 11) (.cons (.call c__law_nexts (.cons (.v 12) (.cons (.v 13) .nil))) (.cons (.c (.str "fun")) (.cons (.v 6) .nil))))))
    .nil)))) .nil)
    (.cons (.ift (.cmp .eq (.v 3) (.c (.int 2))) (.cons (.asg (.nm 14) (.bin .add (.c (.int 95)) (.call c__law_draw (.cons (.v 0) (.cons (.v 1) (.cons (.c (.int 5)) .nil))))))
    (.cons (.asg (.nm 11) (.tup (.cons (.c (.str "app")) (.cons (.tup (.cons (.c (.str "fun")) (.cons (.tup (.cons (.c (.str "nat")) .nil)) (.cons (.tup (.cons (.c (.str "fun")) (.cons (.tup (.cons (.c (.str "nat")) .nil)) (.cons (.call c__law_nexts (.cons (.v 5) (.cons (.tup (.cons (.c (.str "var")) (.cons (.c (.int 1)) .nil))) .nil))) .nil)))) .nil)))) (.cons (.tup (.cons (.c (.str "var")) (.cons (.v 14) .nil))) .nil)))))
    (.cons (.ret (.tup (.cons (.v 11) (.cons (.tup (.cons (.c (.str "fun")) (.cons (.tup (.cons (.c (.str "nat")) .nil)) (.cons (.call c__law_nexts (.cons (.v 5) (.cons (.tup (.cons (.c (.str "var")) (.cons (.bin .add (.v 14) (.c (.int 1))) .nil))) .nil))) .nil)))) (.cons (.c (.str "fun")) (.cons (.v 6) .nil))))))
    .nil))) .nil)
    (.cons (.asg (.nm 7) (.call c__law_sized (.cons (.v 4) .nil)))
    (.cons (.ift (.cmp .eq (.v 3) (.c (.int 3))) (.cons (.setI (.v 6) (.v 2) (.tup (.cons (.tup (.cons (.c (.str "nat")) .nil)) (.cons (.v 7) .nil))))
    (.cons (.ret (.tup (.cons (.tup (.cons (.c (.str "name")) (.cons (.v 2) .nil))) (.cons (.v 7) (.cons (.c (.str "name")) (.cons (.v 6) .nil))))))
    .nil)) .nil)
    (.cons (.ret (.tup (.cons (.tup (.cons (.c (.str "first")) (.cons (.tup (.cons (.c (.str "pair")) (.cons (.tup (.cons (.c (.str "nat")) .nil)) (.cons (.v 7) (.cons (.tup (.cons (.c (.str "zero")) .nil)) .nil))))) .nil))) (.cons (.v 7) (.cons (.c (.str "first")) (.cons (.v 6) .nil))))))
    .nil))))))))))
/- _law_told(_law_way, _law_thing, _law_place, _law_rule, _law_fuel, _law_book): 0 _law_way, 1 _law_thing, 2 _law_place, 3 _law_rule, 4 _law_fuel, 5 _law_book, 6 _law_e -/
def m_l_told_v10 (c_normal c_walked c_stepped c__law_word : Nat) (y_KeeperError n_KeeperError : List Nat) : Sms :=
    (.cons (.tryA (.cons (.ift (.cmp .eq (.v 0) (.c (.int 0))) (.cons (.ret (.tup (.cons (.c (.str "thing")) (.cons (.call c_stepped (.cons (.v 1) (.cons (.v 2) (.cons (.v 5) .nil)))) .nil))))
    .nil) .nil)
    (.cons (.ift (.cmp .eq (.v 0) (.c (.int 1))) (.cons (.ret (.tup (.cons (.c (.str "thing")) (.cons (.call c_walked (.cons (.v 1) (.cons (.lst (.cons (.tup (.cons (.v 2) (.cons (.v 3) .nil))) .nil)) (.cons (.v 5) .nil)))) .nil))))
    .nil) .nil)
    (.cons (.ret (.tup (.cons (.c (.str "thing")) (.cons (.call c_normal (.cons (.v 1) (.cons (.v 4) (.cons (.v 5) .nil)))) .nil))))
    .nil))) y_KeeperError n_KeeperError 6 (.cons (.ret (.tup (.cons (.c (.str "refused")) (.cons (.call c__law_word (.cons (.v 6) .nil)) .nil))))
    .nil))
    .nil)
/- law(_law_script): 0 _law_script, 1 _law_tape, 2 _law_word_here, 3 _law_one, 4 _law_made, 5 _law_rule, 6 _law_book, 7 _law_place, 8 _law_thing, 9 _law_due, 10 _law_way, 11 _law_side -/
def m_law_v10 (c__law_told c__law_great c__law_nexts c__law_draw c__law_sized c__law_built c__law_word_by : Nat) : Sms :=
    (.cons (.asg (.nm 1) (.lst (.cons (.c (.int 0)) .nil)))
    (.cons (.asg (.nm 2) (.call c__law_word_by (.cons (.call c__law_draw (.cons (.v 0) (.cons (.v 1) (.cons (.bin .pow (.c (.int 10)) (.c (.int 6))) .nil)))) .nil)))
    (.cons (.asg (.tp [3, 4, 5, 6]) (.call c__law_built (.cons (.v 0) (.cons (.v 1) (.cons (.v 2) .nil)))))
    (.cons (.asg (.nm 7) (.bin .mul (.tup (.cons (.c (.int 0)) .nil)) (.call c__law_draw (.cons (.v 0) (.cons (.v 1) (.cons (.c (.int 4)) .nil))))))
    (.cons (.ift (.and' (.cmp .eq (.v 5) (.c (.str "name"))) (.cmp .gt (.call c__law_draw (.cons (.v 0) (.cons (.v 1) (.cons (.c (.int 3)) .nil)))) (.c (.int 0)))) (.cons (.asg (.nm 11) (.call c__law_sized (.cons (.c (.int 300)) .nil)))
    (.cons (.asg (.nm 3) (.tup (.cons (.c (.str "app")) (.cons (.v 3) (.cons (.v 11) .nil)))))
    (.cons (.asg (.nm 4) (.tup (.cons (.c (.str "app")) (.cons (.v 4) (.cons (.v 11) .nil)))))
    (.cons (.asg (.nm 7) (.bin .add (.v 7) (.tup (.cons (.c (.int 0)) .nil))))
    .nil)))) .nil)
    (.cons (.asg (.nm 8) (.call c__law_nexts (.cons (.bi .len (.cons (.v 7) .nil)) (.cons (.v 3) .nil))))
    (.cons (.asg (.nm 9) (.tup (.cons (.c (.str "thing")) (.cons (.call c__law_nexts (.cons (.bi .len (.cons (.v 7) .nil)) (.cons (.v 4) .nil))) .nil))))
    (.cons (.ift (.and' (.cmp .eq (.ix (.v 3) (.c (.int 0))) (.c (.str "app"))) (.cmp .eq (.v 5) (.c (.str "name")))) (.cons (.asg (.nm 8) (.call c__law_nexts (.cons (.bin .sub (.bi .len (.cons (.v 7) .nil)) (.c (.int 1))) (.cons (.v 3) .nil))))
    (.cons (.asg (.nm 9) (.tup (.cons (.c (.str "thing")) (.cons (.call c__law_nexts (.cons (.bin .sub (.bi .len (.cons (.v 7) .nil)) (.c (.int 1))) (.cons (.v 4) .nil))) .nil))))
    .nil)) .nil)
    (.cons (.ift (.call c__law_great (.cons (.ix (.v 9) (.c (.int 1))) .nil)) (.cons (.asg (.nm 9) (.tup (.cons (.c (.str "refused")) (.cons (.c (.str "great")) .nil))))
    .nil) .nil)
    (.cons (.for' (.nm 10) (.rng1 (.c (.int 2))) (.cons (.ift (.cmp .ne (.call c__law_told (.cons (.v 10) (.cons (.v 8) (.cons (.v 7) (.cons (.v 5) (.cons (.c (.int 0)) (.cons (.v 6) .nil))))))) (.v 9)) (.cons (.ret (.c (.bool false)))
    .nil) .nil)
    .nil))
    (.cons (.ift (.cmp .ne (.call c__law_told (.cons (.c (.int 2)) (.cons (.v 8) (.cons (.v 7) (.cons (.v 5) (.cons (.c (.int 0)) (.cons (.v 6) .nil))))))) (.tup (.cons (.c (.str "refused")) (.cons (.c (.str "dry")) .nil)))) (.cons (.ret (.c (.bool false)))
    .nil) .nil)
    (.cons (.ift (.cmp .eq (.ix (.v 9) (.c (.int 0))) (.c (.str "refused"))) (.cons (.ret (.cmp .eq (.call c__law_told (.cons (.c (.int 2)) (.cons (.v 8) (.cons (.v 7) (.cons (.v 5) (.cons (.c (.int 1)) (.cons (.v 6) .nil))))))) (.v 9)))
    .nil) .nil)
    (.cons (.ift (.cmp .eq (.v 5) (.c (.str "next"))) (.cons (.ret (.c (.bool true)))
    .nil) .nil)
    (.cons (.ret (.cmp .eq (.call c__law_told (.cons (.c (.int 2)) (.cons (.v 8) (.cons (.v 7) (.cons (.v 5) (.cons (.c (.int 1)) (.cons (.v 6) .nil))))))) (.tup (.cons (.c (.str "thing")) (.cons (.tup (.cons (.ix (.v 9) (.c (.int 1))) (.cons (.lst (.cons (.tup (.cons (.v 7) (.cons (.v 5) .nil))) .nil)) .nil))) .nil)))))
    .nil))))))))))))))
/- _law_over(_law_thing, _law_number): 0 _law_thing, 1 _law_number -/
def m_l_over_v2 : Sms :=
    (.cons (.ift (.cmp .inn (.ix (.v 0) (.c (.int 0))) (.tup (.cons (.c (.str "all")) (.cons (.c (.str "some")) (.cons (.c (.str "fun")) .nil))))) (.cons (.ret (.bi .int (.cons (.cmp .eq (.v 1) (.c (.int 1))) .nil)))
    .nil) .nil)
    (.cons (.ret (.bi .int (.cons (.and' (.cmp .inn (.ix (.v 0) (.c (.int 0))) (.tup (.cons (.c (.str "rec")) (.cons (.c (.str "carry")) .nil)))) (.cmp .eq (.v 1) (.c (.int 0)))) .nil)))
    .nil))
/- _law_moved(_law_thing, _law_by, _law_low): 0 _law_thing, 1 _law_by, 2 _law_low, 3 _law_kids_here, 4 _law_k -/
def m_l_moved_v3 (c__law_moved c__law_over c__law_kids : Nat) : Sms :=
    (.cons (.ift (.cmp .eq (.ix (.v 0) (.c (.int 0))) (.c (.str "var"))) (.cons (.ret (.tup (.cons (.c (.str "var")) (.cons (.bin .add (.ix (.v 0) (.c (.int 1))) (.bin .mul (.v 1) (.bi .int (.cons (.cmp .ge (.ix (.v 0) (.c (.int 1))) (.v 2)) .nil)))) .nil))))
    .nil) .nil)
    (.cons (.asg (.nm 3) (.call c__law_kids (.cons (.v 0) .nil)))
    (.cons (.ift (.cmp .eq (.v 3) (.lst .nil)) (.cons (.ret (.v 0))
    .nil) .nil)
    (.cons (.ret (.bin .add (.tup (.cons (.ix (.v 0) (.c (.int 0))) .nil)) (.bi .tup (.cons (.comp 4 (.rng1 (.bi .len (.cons (.v 3) .nil))) .non (.call c__law_moved (.cons (.ix (.v 3) (.v 4)) (.cons (.v 1) (.cons (.bin .add (.v 2) (.call c__law_over (.cons (.v 0) (.cons (.v 4) .nil)))) .nil))))) .nil))))
    .nil))))
/- _law_put(_law_thing, _law_other, _law_over_here): 0 _law_thing, 1 _law_other, 2 _law_over_here, 3 _law_kids_here, 4 _law_k -/
def m_l_put_v3 (c__law_put c__law_over c__law_kids c__law_moved : Nat) : Sms :=
    (.cons (.ift (.and' (.cmp .eq (.ix (.v 0) (.c (.int 0))) (.c (.str "var"))) (.cmp .eq (.ix (.v 0) (.c (.int 1))) (.v 2))) (.cons (.ret (.call c__law_moved (.cons (.v 1) (.cons (.v 2) (.cons (.c (.int 0)) .nil)))))
    .nil) .nil)
    (.cons (.ift (.cmp .eq (.ix (.v 0) (.c (.int 0))) (.c (.str "var"))) (.cons (.ret (.tup (.cons (.c (.str "var")) (.cons (.bin .sub (.ix (.v 0) (.c (.int 1))) (.bi .int (.cons (.cmp .gt (.ix (.v 0) (.c (.int 1))) (.v 2)) .nil))) .nil))))
    .nil) .nil)
    (.cons (.asg (.nm 3) (.call c__law_kids (.cons (.v 0) .nil)))
    (.cons (.ift (.cmp .eq (.v 3) (.lst .nil)) (.cons (.ret (.v 0))
    .nil) .nil)
    (.cons (.ret (.bin .add (.tup (.cons (.ix (.v 0) (.c (.int 0))) .nil)) (.bi .tup (.cons (.comp 4 (.rng1 (.bi .len (.cons (.v 3) .nil))) .non (.call c__law_put (.cons (.ix (.v 3) (.v 4)) (.cons (.v 1) (.cons (.bin .add (.v 2) (.call c__law_over (.cons (.v 0) (.cons (.v 4) .nil)))) .nil))))) .nil))))
    .nil)))))
/- _law_round(_law_way, _law_thing): 0 _law_way, 1 _law_thing, 2 _law_kind -/
def m_l_round : Sms :=
    (.cons (.asg (.nm 2) (.tup (.cons (.c (.str "same")) (.cons (.tup (.cons (.c (.str "nat")) .nil)) (.cons (.v 1) (.cons (.tup (.cons (.c (.str "zero")) .nil)) .nil))))))
    (.cons (.ift (.cmp .eq (.v 0) (.c (.int 0))) (.cons (.ret (.tup (.cons (.c (.str "rec")) (.cons (.v 2) (.cons (.tup (.cons (.c (.str "zero")) .nil)) (.cons (.tup (.cons (.c (.str "zero")) .nil)) (.cons (.tup (.cons (.c (.str "zero")) .nil)) .nil)))))))
    .nil) .nil)
    (.cons (.ift (.cmp .eq (.v 0) (.c (.int 1))) (.cons (.ret (.tup (.cons (.c (.str "carry")) (.cons (.v 2) (.cons (.tup (.cons (.c (.str "zero")) .nil)) (.cons (.tup (.cons (.c (.str "zero")) .nil)) .nil))))))
    .nil) .nil)
    (.cons (.ift (.cmp .eq (.v 0) (.c (.int 2))) (.cons (.ret (.tup (.cons (.c (.str "like")) (.cons (.tup (.cons (.c (.str "all")) (.cons (.tup (.cons (.c (.str "nat")) .nil)) (.cons (.v 2) .nil)))) (.cons (.tup (.cons (.c (.str "zero")) .nil)) .nil)))))
    .nil) .nil)
    (.cons (.ift (.cmp .lt (.v 0) (.c (.int 6))) (.cons (.ret (.tup (.cons (.c (.str "fun")) (.cons (.tup (.cons (.c (.str "nat")) .nil)) (.cons (.v 1) .nil)))))
    .nil) .nil)
    (.cons (.ret (.ix (.lst (.cons (.tup (.cons (.c (.str "next")) (.cons (.v 1) .nil))) (.cons (.tup (.cons (.c (.str "pair")) (.cons (.tup (.cons (.c (.str "nat")) .nil)) (.cons (.tup (.cons (.c (.str "zero")) .nil)) (.cons (.v 1) .nil))))) .nil))) (.bin .sub (.v 0) (.c (.int 6)))))
    .nil))))))
/- _law_deep(_law_script, _law_tape): 0 _law_script, 1 _law_tape, 2 _law_ways, 3 _law_binders, 4 _law_number, 5 _law_body, 6 _law_way, 7 _law_far, 8 _law_other, 9 _law_made, 10 _law_k -/
def m_l_deep_v2 (c__law_great c__law_draw c__law_round : Nat) : Sms :=
    (.cons (.asg (.nm 2) (.comp 10 (.rng1 (.call c__law_draw (.cons (.v 0) (.cons (.v 1) (.cons (.c (.int 30)) .nil))))) .non (.call c__law_draw (.cons (.v 0) (.cons (.v 1) (.cons (.c (.int 8)) .nil))))))
    (.cons (.asg (.nm 3) (.bi .len (.cons (.comp 6 (.val (.v 2)) (.one (.cmp .lt (.v 6) (.c (.int 6)))) (.v 6)) .nil)))
    (.cons (.asg (.nm 4) (.ix (.lst (.cons (.v 3) (.cons (.call c__law_draw (.cons (.v 0) (.cons (.v 1) (.cons (.bin .add (.v 3) (.c (.int 3))) .nil)))) .nil))) (.call c__law_draw (.cons (.v 0) (.cons (.v 1) (.cons (.c (.int 2)) .nil))))))
    (.cons (.asg (.nm 5) (.tup (.cons (.c (.str "app")) (.cons (.tup (.cons (.c (.str "var")) (.cons (.v 4) .nil))) (.cons (.tup (.cons (.c (.str "var")) (.cons (.call c__law_draw (.cons (.v 0) (.cons (.v 1) (.cons (.bin .add (.v 3) (.c (.int 2))) .nil)))) .nil))) .nil)))))
    (.cons (.for' (.nm 6) (.val (.v 2)) (.cons (.asg (.nm 5) (.call c__law_round (.cons (.v 6) (.cons (.v 5) .nil))))
    .nil))
    (.cons (.asg (.nm 7) (.ix (.lst (.cons (.c (.int 3)) (.cons (.c (.int 60)) .nil))) (.call c__law_draw (.cons (.v 0) (.cons (.v 1) (.cons (.c (.int 2)) .nil))))))
    (.cons (.asg (.nm 8) (.tup (.cons (.c (.str "app")) (.cons (.tup (.cons (.c (.str "var")) (.cons (.call c__law_draw (.cons (.v 0) (.cons (.v 1) (.cons (.v 7) .nil)))) .nil))) (.cons (.tup (.cons (.c (.str "next")) (.cons (.tup (.cons (.c (.str "var")) (.cons (.call c__law_draw (.cons (.v 0) (.cons (.v 1) (.cons (.v 7) .nil)))) .nil))) .nil))) .nil)))))
    (.cons (.asg (.nm 9) (.tup (.cons (.c (.str "app")) (.cons (.tup (.cons (.c (.str "fun")) (.cons (.tup (.cons (.c (.str "nat")) .nil)) (.cons (.v 5) .nil)))) (.cons (.v 8) .nil)))))
    (.cons (.ift (.call c__law_great (.cons (.v 9) .nil)) (.cons (.ret (.tup (.cons (.c (.str "zero")) .nil)))
    .nil) .nil)
    (.cons (.ret (.v 9))
    .nil))))))))))
/- _law_told(_law_way, _law_thing, _law_place): 0 _law_way, 1 _law_thing, 2 _law_place -/
def m_l_told_v2 (c_walked c_stepped : Nat) (y_Great n_Great : List Nat) : Sms :=
    (.cons (.tryM (.cons (.ift (.cmp .eq (.v 0) (.c (.int 0))) (.cons (.ret (.call c_stepped (.cons (.v 1) (.cons (.v 2) (.cons (.dct [] .nil) .nil)))))
    .nil) .nil)
    (.cons (.ret (.call c_walked (.cons (.v 1) (.cons (.lst (.cons (.tup (.cons (.v 2) (.cons (.c (.str "fun")) .nil))) .nil)) (.cons (.dct [] .nil) .nil)))))
    .nil)) (.cons y_Great n_Great (.cons (.ret (.c (.str "great")))
    .nil)
    .nil))
    .nil)
/- _law_first(_law_thing, _law_place): 0 _law_thing, 1 _law_place -/
def m_l_first (c_normal : Nat) (y_Dry n_Dry y_Great n_Great : List Nat) : Sms :=
    (.cons (.tryM (.cons (.ret (.cmp .eq (.ix (.ix (.call c_normal (.cons (.v 0) (.cons (.c (.int 600)) (.cons (.dct [] .nil) .nil)))) (.c (.int 1))) (.c (.int 0))) (.tup (.cons (.v 1) (.cons (.c (.str "fun")) .nil)))))
    .nil) (.cons y_Dry n_Dry (.cons (.ret (.c (.bool false)))
    .nil)
    (.cons y_Great n_Great (.cons (.ret (.c (.bool true)))
    .nil)
    .nil)))
    .nil)
/- law(_law_script): 0 _law_script, 1 _law_tape, 2 _law_one, 3 _law_due, 4 _law_place, 5 _law_thing, 6 _law_k, 7 _law_way -/
def m_law_v11 (c__law_told c_stepped c__law_first c__law_great c__law_draw c__law_put c__law_deep : Nat) : Sms :=
    (.cons (.asg (.nm 1) (.lst (.cons (.c (.int 0)) .nil)))
    (.cons (.asg (.nm 2) (.call c__law_deep (.cons (.v 0) (.cons (.v 1) .nil))))
    (.cons (.ift (.cmp .eq (.v 2) (.tup (.cons (.c (.str "zero")) .nil))) (.cons (.ret (.c (.bool true)))
    .nil) .nil)
    (.cons (.asg (.nm 3) (.call c__law_put (.cons (.ix (.ix (.v 2) (.c (.int 1))) (.c (.int 2))) (.cons (.ix (.v 2) (.c (.int 2))) (.cons (.c (.int 0)) .nil)))))
    (.cons (.asg (.nm 4) (.bin .mul (.tup (.cons (.c (.int 0)) .nil)) (.call c__law_draw (.cons (.v 0) (.cons (.v 1) (.cons (.c (.int 4)) .nil))))))
    (.cons (.asg (.nm 5) (.v 2))
    (.cons (.for' (.nm 6) (.rng1 (.bi .len (.cons (.v 4) .nil))) (.cons (.asg (.nm 5) (.tup (.cons (.c (.str "next")) (.cons (.v 5) .nil))))
    (.cons (.asg (.nm 3) (.tup (.cons (.c (.str "next")) (.cons (.v 3) .nil))))
    .nil)))
    (.cons (.ift (.call c__law_great (.cons (.v 5) .nil)) (.cons (.ret (.c (.bool true)))
    .nil) .nil)
    (.cons (.ift (.call c__law_great (.cons (.v 3) .nil)) (.cons (.asg (.nm 3) (.c (.str "great")))
    .nil) .nil)
    (.cons (.for' (.nm 7) (.rng1 (.c (.int 2))) (.cons (.ift (.cmp .ne (.call c__law_told (.cons (.v 7) (.cons (.v 5) (.cons (.v 4) .nil)))) (.v 3)) (.cons (.ret (.c (.bool false)))
    .nil) .nil)
    .nil))
    (.cons (.ift (.not' (.call c__law_first (.cons (.v 5) (.cons (.v 4) .nil)))) (.cons (.ret (.c (.bool false)))
    .nil) .nil)
    (.cons (.ex (.call c_stepped (.cons (.tup (.cons (.c (.str "app")) (.cons (.tup (.cons (.c (.str "fun")) (.cons (.tup (.cons (.c (.str "nat")) .nil)) (.cons (.tup (.cons (.c (.str "var")) (.cons (.c (.int 0)) .nil))) .nil)))) (.cons (.tup (.cons (.c (.str "zero")) .nil)) .nil)))) (.cons (.tup .nil) (.cons (.dct [] .nil) .nil)))))
    (.cons (.ret (.cmp .eq (.call c__law_told (.cons (.c (.int 0)) (.cons (.v 5) (.cons (.v 4) .nil)))) (.v 3)))
    .nil)))))))))))))
/- kind_at(context, number): 0 context, 1 number -/
def m_kind_at (c_lifted x_NoVariable : Nat) : Sms :=
    (.cons (.ift (.cmp .ge (.v 1) (.bi .len (.cons (.v 0) .nil))) (.cons (.raise x_NoVariable)
    .nil) .nil)
    (.cons (.ret (.call c_lifted (.cons (.ix (.v 0) (.v 1)) (.cons (.bin .add (.v 1) (.c (.int 1))) (.cons (.c (.int 0)) .nil)))))
    .nil))
/- _law_context(_law_cell): 0 _law_cell, 1 _law_made_of, 2 _law_k, 3 _law_way, 4 _law_kind -/
def m_l_context : Sms :=
    (.cons (.asg (.nm 1) (.lst .nil))
    (.cons (.for' (.nm 2) (.rng1 (.ix (.lst (.cons (.c (.int 0)) (.cons (.c (.int 1)) (.cons (.c (.int 2)) (.cons (.c (.int 3)) (.cons (.c (.int 5)) (.cons (.c (.int 9)) .nil))))))) (.bin .mod (.v 0) (.c (.int 6))))) (.cons (.asg (.nm 3) (.bin .mod (.bin .add (.bin .fdiv (.v 0) (.c (.int 6))) (.bin .mul (.bin .add (.bin .fdiv (.v 0) (.c (.int 36))) (.c (.int 5))) (.v 2))) (.c (.int 6))))
    (.cons (.asg (.nm 4) (.tup (.cons (.c (.str "nat")) .nil)))
    (.cons (.ift (.cmp .eq (.v 3) (.c (.int 1))) (.cons (.asg (.nm 4) (.tup (.cons (.c (.str "all")) (.cons (.tup (.cons (.c (.str "nat")) .nil)) (.cons (.tup (.cons (.c (.str "nat")) .nil)) .nil)))))
    .nil) .nil)
    (.cons (.ift (.cmp .eq (.v 3) (.c (.int 2))) (.cons (.asg (.nm 4) (.tup (.cons (.c (.str "some")) (.cons (.tup (.cons (.c (.str "nat")) .nil)) (.cons (.tup (.cons (.c (.str "nat")) .nil)) .nil)))))
    .nil) .nil)
    (.cons (.ift (.cmp .eq (.v 3) (.c (.int 3))) (.cons (.asg (.nm 4) (.tup (.cons (.c (.str "none")) .nil)))
    .nil) .nil)
    (.cons (.ift (.and' (.cmp .eq (.v 3) (.c (.int 4))) (.and' (.cmp .ne (.v 1) (.lst .nil)) (.cmp .eq (.ix (.v 1) (.c (.int 0))) (.tup (.cons (.c (.str "nat")) .nil))))) (.cons (.asg (.nm 4) (.tup (.cons (.c (.str "same")) (.cons (.tup (.cons (.c (.str "nat")) .nil)) (.cons (.tup (.cons (.c (.str "var")) (.cons (.c (.int 0)) .nil))) (.cons (.tup (.cons (.c (.str "zero")) .nil)) .nil))))))
    .nil) .nil)
    (.cons (.ift (.cmp .eq (.v 3) (.c (.int 5))) (.cons (.asg (.nm 4) (.tup (.cons (.c (.str "all")) (.cons (.tup (.cons (.c (.str "nat")) .nil)) (.cons (.tup (.cons (.c (.str "same")) (.cons (.tup (.cons (.c (.str "nat")) .nil)) (.cons (.tup (.cons (.c (.str "var")) (.cons (.c (.int 0)) .nil))) (.cons (.tup (.cons (.c (.str "zero")) .nil)) .nil))))) .nil)))))
    .nil) .nil)
    (.cons (.asg (.nm 1) (.bin .add (.lst (.cons (.v 4) .nil)) (.v 1)))
    .nil)))))))))
    (.cons (.ret (.v 1))
    .nil)))
/- _law_book(_law_cell): 0 _law_cell, 1 _law_book_here -/
def m_l_book_v2 : Sms :=
    (.cons (.asg (.nm 1) (.dct [] .nil))
    (.cons (.ift (.cmp .gt (.bin .mod (.v 0) (.c (.int 3))) (.c (.int 0))) (.cons (.setI (.v 1) (.c (.str "two")) (.tup (.cons (.tup (.cons (.c (.str "nat")) .nil)) (.cons (.tup (.cons (.c (.str "next")) (.cons (.tup (.cons (.c (.str "next")) (.cons (.tup (.cons (.c (.str "zero")) .nil)) .nil))) .nil))) .nil))))
    .nil) .nil)
    (.cons (.ift (.cmp .gt (.bin .mod (.v 0) (.c (.int 3))) (.c (.int 1))) (.cons (.setI (.v 1) (.c (.str "idle")) (.tup (.cons (.tup (.cons (.c (.str "all")) (.cons (.tup (.cons (.c (.str "nat")) .nil)) (.cons (.tup (.cons (.c (.str "nat")) .nil)) .nil)))) (.cons (.tup (.cons (.c (.str "fun")) (.cons (.tup (.cons (.c (.str "nat")) .nil)) (.cons (.tup (.cons (.c (.str "var")) (.cons (.c (.int 0)) .nil))) .nil)))) .nil))))
    .nil) .nil)
    (.cons (.ret (.v 1))
    .nil))))
/- _law_word_of(_law_e): 0 _law_e, 1 _law_words -/
def m_l_word_of (p0 q0 p1 q1 p2 q2 p3 q3 p4 q4 p5 q5 p6 q6 p7 q7 p8 q8 p9 q9 : List Nat) : Sms :=
    (.cons (.asg (.nm 1) (.lst .nil))
    (.cons (.ift (.isx (.v 0) p9 q9) (.cons (.ex (.mth .append (.v 1) (.cons (.c (.str "novariable")) .nil)))
    .nil) .nil)
    (.cons (.ift (.isx (.v 0) p8 q8) (.cons (.ex (.mth .append (.v 1) (.cons (.c (.str "noname")) .nil)))
    .nil) .nil)
    (.cons (.ift (.isx (.v 0) p7 q7) (.cons (.ex (.mth .append (.v 1) (.cons (.c (.str "notall")) .nil)))
    .nil) .nil)
    (.cons (.ift (.isx (.v 0) p6 q6) (.cons (.ex (.mth .append (.v 1) (.cons (.c (.str "notsome")) .nil)))
    .nil) .nil)
    (.cons (.ift (.isx (.v 0) p5 q5) (.cons (.ex (.mth .append (.v 1) (.cons (.c (.str "notsame")) .nil)))
    .nil) .nil)
    (.cons (.ift (.isx (.v 0) p4 q4) (.cons (.ex (.mth .append (.v 1) (.cons (.c (.str "unlike")) .nil)))
    .nil) .nil)
    (.cons (.ift (.isx (.v 0) p3 q3) (.cons (.ex (.mth .append (.v 1) (.cons (.c (.str "great")) .nil)))
    .nil) .nil)
    (.cons (.ift (.isx (.v 0) p2 q2) (.cons (.ex (.mth .append (.v 1) (.cons (.c (.str "dry")) .nil)))
    .nil) .nil)
    (.cons (.ift (.or' (.isx (.v 0) p0 q0) (.not' (.isx (.v 0) p1 q1))) (.cons (.ex (.mth .append (.v 1) (.cons (.c (.str "other")) .nil)))
    .nil) .nil)
    (.cons (.ret (.mth .join (.c (.str "")) (.cons (.v 1) .nil)))
    .nil)))))))))))
/- _law_answer(_law_context_here, _law_number): 0 _law_context_here, 1 _law_number, 2 _law_e -/
def m_l_answer (c_kind_at c__law_word_of : Nat) (y_KeeperError n_KeeperError : List Nat) : Sms :=
    (.cons (.tryA (.cons (.ret (.call c_kind_at (.cons (.v 0) (.cons (.v 1) .nil))))
    .nil) y_KeeperError n_KeeperError 2 (.cons (.ret (.call c__law_word_of (.cons (.v 2) .nil)))
    .nil))
    .nil)
/- _law_lifted(_law_kind, _law_by): 0 _law_kind, 1 _law_by -/
def m_l_lifted (c_lifted : Nat) (y_Great n_Great : List Nat) : Sms :=
    (.cons (.tryM (.cons (.ret (.call c_lifted (.cons (.v 0) (.cons (.v 1) (.cons (.c (.int 0)) .nil)))))
    .nil) (.cons y_Great n_Great (.cons (.ret (.c (.str "great")))
    .nil)
    .nil))
    .nil)
/- law(_law_script): 0 _law_script, 1 _law_context_here, 2 _law_far, 3 _law_number, 4 _law_handed, 5 _law_got, 6 _law_due, 7 _law_further, 8 _law_side -/
def m_law_v37 (c__law_answer c__law_lifted c__law_cell_at c__law_context : Nat) : Sms :=
    (.cons (.asg (.nm 1) (.call c__law_context (.cons (.call c__law_cell_at (.cons (.v 0) (.cons (.c (.int 0)) .nil))) .nil)))
    (.cons (.asg (.nm 2) (.cmp .eq (.bin .mod (.call c__law_cell_at (.cons (.v 0) (.cons (.c (.int 3)) .nil))) (.c (.int 3))) (.c (.int 1))))
    (.cons (.ift (.v 2) (.cons (.asg (.nm 8) (.tup (.cons (.c (.str "var")) (.cons (.bin .add (.c (.int 90)) (.bin .mod (.bin .fdiv (.call c__law_cell_at (.cons (.v 0) (.cons (.c (.int 3)) .nil))) (.c (.int 3))) (.c (.int 10)))) .nil))))
    (.cons (.ex (.mth .append (.v 1) (.cons (.tup (.cons (.c (.str "same")) (.cons (.tup (.cons (.c (.str "nat")) .nil)) (.cons (.v 8) (.cons (.tup (.cons (.c (.str "fun")) (.cons (.tup (.cons (.c (.str "nat")) .nil)) (.cons (.v 8) .nil)))) .nil))))) .nil)))
    .nil)) .nil)
    (.cons (.asg (.nm 3) (.bin .mod (.call c__law_cell_at (.cons (.v 0) (.cons (.c (.int 1)) .nil))) (.bin .add (.bi .len (.cons (.v 1) .nil)) (.c (.int 2)))))
    (.cons (.asg (.nm 4) (.ix (.lst (.cons (.bi .lst (.cons (.v 1) .nil)) (.cons (.bi .tup (.cons (.v 1) .nil)) .nil))) (.bin .mod (.call c__law_cell_at (.cons (.v 0) (.cons (.c (.int 2)) .nil))) (.c (.int 2)))))
    (.cons (.asg (.nm 5) (.call c__law_answer (.cons (.v 4) (.cons (.v 3) .nil))))
    (.cons (.ift (.cmp .ne (.bi .lst (.cons (.v 4) .nil)) (.v 1)) (.cons (.ret (.c (.bool false)))
    .nil) .nil)
    (.cons (.asg (.nm 6) (.c (.str "novariable")))
    (.cons (.ift (.cmp .lt (.v 3) (.bi .len (.cons (.v 1) .nil))) (.cons (.asg (.nm 6) (.call c__law_lifted (.cons (.ix (.v 1) (.v 3)) (.cons (.bin .add (.v 3) (.c (.int 1))) .nil))))
    .nil) .nil)
    (.cons (.ift (.cmp .ne (.v 5) (.v 6)) (.cons (.ret (.c (.bool false)))
    .nil) .nil)
    (.cons (.asg (.nm 7) (.bi .lst (.cons (.v 4) .nil)))
    (.cons (.ex (.call c__law_answer (.cons (.v 7) (.cons (.v 3) .nil))))
    (.cons (.ex (.mth .insert (.v 7) (.cons (.c (.int 0)) (.cons (.tup (.cons (.c (.str "all")) (.cons (.tup (.cons (.c (.str "nat")) .nil)) (.cons (.tup (.cons (.c (.str "none")) .nil)) .nil)))) .nil))))
    (.cons (.asg (.nm 6) (.call c__law_lifted (.cons (.ix (.bin .add (.v 7) (.lst (.cons (.tup (.cons (.c (.str "nat")) .nil)) .nil))) (.v 3)) (.cons (.bin .add (.v 3) (.c (.int 1))) .nil))))
    (.cons (.ret (.or' (.cmp .ge (.v 3) (.bi .len (.cons (.v 7) .nil))) (.cmp .eq (.call c__law_answer (.cons (.v 7) (.cons (.v 3) .nil))) (.v 6))))
    .nil)))))))))))))))
/- _law_right(_law_thing, _law_want): 0 _law_thing, 1 _law_want, 2 _law_shape_here, 3 _law_knots, 4 _law_k, 5 _law_part, 6 _law_many, 7 _law_sign -/
def m_l_right (c__law_shape c__law_right : Nat) : Sms :=
    (.cons (.ift (.or' (.not' (.isi (.v 0) .tup)) (.or' (.cmp .eq (.bi .len (.cons (.v 0) .nil)) (.c (.int 0))) (.not' (.isi (.ix (.v 0) (.c (.int 0))) .str)))) (.cons (.ret (.c (.int 0)))
    .nil) .nil)
    (.cons (.asg (.nm 2) (.call c__law_shape (.cons (.ix (.v 0) (.c (.int 0))) .nil)))
    (.cons (.ift (.or' (.cmp .is (.v 2) (.c .none)) (.cmp .ne (.bi .len (.cons (.v 0) .nil)) (.bin .add (.bi .len (.cons (.v 2) .nil)) (.c (.int 1))))) (.cons (.ret (.c (.int 0)))
    .nil) .nil)
    (.cons (.ift (.cmp .ne (.cmp .inn (.ix (.v 0) (.c (.int 0))) (.lst (.cons (.c (.str "nat")) (.cons (.c (.str "none")) (.cons (.c (.str "all")) (.cons (.c (.str "some")) (.cons (.c (.str "same")) .nil))))))) (.cmp .eq (.v 1) (.c (.str "k")))) (.cons (.ret (.c (.int 0)))
    .nil) .nil)
    (.cons (.asg (.nm 3) (.c (.int 1)))
    (.cons (.for' (.nm 4) (.rng1 (.bi .len (.cons (.v 2) .nil))) (.cons (.asg (.nm 5) (.ix (.v 0) (.bin .add (.v 4) (.c (.int 1)))))
    (.cons (.ift (.cmp .eq (.ix (.v 2) (.v 4)) (.c (.str "n"))) (.cons (.ift (.or' (.not' (.isi (.v 5) .int)) (.or' (.isi (.v 5) .bool) (.or' (.cmp .lt (.v 5) (.c (.int 0))) (.cmp .gt (.v 5) (.c (.int 99)))))) (.cons (.ret (.c (.int 0)))
    .nil) .nil)
    .nil) (.cons (.ift (.cmp .eq (.ix (.v 2) (.v 4)) (.c (.str "w"))) (.cons (.ift (.or' (.not' (.isi (.v 5) .str)) (.or' (.cmp .lt (.bi .len (.cons (.v 5) .nil)) (.c (.int 1))) (.cmp .gt (.bi .len (.cons (.v 5) .nil)) (.c (.int 12))))) (.cons (.ret (.c (.int 0)))
    .nil) .nil)
    (.cons (.ift (.cmp .ne (.comp 7 (.val (.v 5)) (.one (.cmp .nin (.v 7) (.c (.str "abcdefghijklmnopqrstuvwxyz")))) (.v 7)) (.lst .nil)) (.cons (.ret (.c (.int 0)))
    .nil) .nil)
    (.cons (.ift (.cmp .isn (.call c__law_shape (.cons (.v 5) .nil)) (.c .none)) (.cons (.ret (.c (.int 0)))
    .nil) .nil)
    .nil))) (.cons (.asg (.nm 6) (.call c__law_right (.cons (.v 5) (.cons (.ix (.v 2) (.v 4)) .nil))))
    (.cons (.ift (.cmp .eq (.v 6) (.c (.int 0))) (.cons (.ret (.c (.int 0)))
    .nil) .nil)
    (.cons (.asg (.nm 3) (.bin .add (.v 3) (.v 6)))
    .nil))))
    .nil))
    .nil)))
    (.cons (.ret (.v 3))
    .nil)))))))
/- _law_depth(_law_thing): 0 _law_thing, 1 _law_part -/
def m_l_depth (c__law_depth : Nat) : Sms :=
    (.cons (.ift (.not' (.isi (.v 0) .tup)) (.cons (.ret (.c (.int 0)))
    .nil) .nil)
    (.cons (.ret (.bin .add (.c (.int 1)) (.bi .maxd (.cons (.comp 1 (.val (.sl (.v 0) (.one (.c (.int 1))) .non)) .non (.call c__law_depth (.cons (.v 1) .nil))) (.cons (.c (.int 0)) .nil)))))
    .nil))
/- _law_spoilt(_law_thing, _law_way, _law_cell): 0 _law_thing, 1 _law_way, 2 _law_cell, 3 _law_words, 4 _law_some -/
def m_l_spoilt : Sms :=
    (.cons (.asg (.nm 3) (.lst (.cons (.c (.str "nat")) (.cons (.c (.str "zero")) (.cons (.c (.str "app")) (.cons (.c (.str "fun")) (.cons (.c (.str "Nat")) (.cons (.c (.str "")) (.cons (.c (.str "rec")) (.cons (.c (.str "second")) (.cons (.c (.str "var")) (.cons (.c (.str "name")) .nil))))))))))))
    (.cons (.ift (.cmp .eq (.v 1) (.c (.int 0))) (.cons (.ret (.bin .add (.tup (.cons (.ix (.v 3) (.bin .mod (.v 2) (.c (.int 10)))) .nil)) (.sl (.v 0) (.one (.c (.int 1))) .non)))
    .nil) .nil)
    (.cons (.ift (.cmp .eq (.v 1) (.c (.int 1))) (.cons (.ret (.bin .add (.v 0) (.tup (.cons (.v 0) .nil))))
    .nil) .nil)
    (.cons (.ift (.cmp .eq (.v 1) (.c (.int 2))) (.cons (.ret (.sl (.v 0) .non (.one (.neg (.c (.int 1))))))
    .nil) .nil)
    (.cons (.ift (.cmp .eq (.v 1) (.c (.int 3))) (.cons (.ret (.tup (.cons (.c (.str "var")) (.cons (.ix (.lst (.cons (.bin .sub (.bin .mod (.v 2) (.c (.int 106))) (.c (.int 3))) (.cons (.c (.bool true)) (.cons (.c (.str "0")) (.cons (.c .none) .nil))))) (.bin .mod (.bin .fdiv (.v 2) (.c (.int 106))) (.c (.int 4)))) .nil))))
    .nil) .nil)
    (.cons (.ift (.cmp .eq (.v 1) (.c (.int 4))) (.cons (.asg (.nm 4) (.lst (.cons (.c (.str "Ab")) (.cons (.c (.str "")) (.cons (.c (.str "abcdefghijklm")) (.cons (.c (.str "a b")) (.cons (.c (.int 3)) (.cons (.bin .mul (.c (.str "z")) (.c (.int 12))) (.cons (.c (.str "abc1")) (.cons (.c (.str "never")) (.cons (.c (.str "none")) (.cons (.c (.str "var")) (.cons (.c (.str "nones")) .nil)))))))))))))
    (.cons (.ift (.cmp .eq (.bin .mod (.bin .fdiv (.v 2) (.c (.int 11))) (.c (.int 3))) (.c (.int 1))) (.cons (.asg (.nm 2) (.bin .fdiv (.v 2) (.c (.int 33))))
    (.cons (.asg (.nm 4) (.lst (.cons (.c (.str "nat")) (.cons (.c (.str "none")) (.cons (.c (.str "all")) (.cons (.c (.str "some")) (.cons (.c (.str "same")) (.cons (.c (.str "var")) (.cons (.c (.str "fun")) (.cons (.c (.str "app")) (.cons (.c (.str "zero")) (.cons (.c (.str "next")) (.cons (.c (.str "rec")) .nil)))))))))))))
    (.cons (.asg (.nm 4) (.bin .add (.v 4) (.lst (.cons (.c (.str "like")) (.cons (.c (.str "carry")) (.cons (.c (.str "never")) (.cons (.c (.str "pair")) (.cons (.c (.str "first")) (.cons (.c (.str "second")) (.cons (.c (.str "name")) .nil))))))))))
    .nil))) .nil)
    (.cons (.ret (.tup (.cons (.c (.str "name")) (.cons (.ix (.v 4) (.bin .mod (.v 2) (.bi .len (.cons (.v 4) .nil)))) .nil))))
    .nil))) .nil)
    (.cons (.ift (.cmp .eq (.v 1) (.c (.int 5))) (.cons (.ret (.ix (.lst (.cons (.c .none) (.cons (.tup .nil) (.cons (.c (.str "zero")) (.cons (.c (.int 0)) (.cons (.c (.bool true)) (.cons (.tup (.cons (.c .none) .nil)) (.cons (.tup (.cons (.tup .nil) .nil)) (.cons (.tup (.cons (.c (.str "zero")) (.cons (.c .none) .nil))) .nil))))))))) (.bin .mod (.v 2) (.c (.int 8)))))
    .nil) .nil)
    (.cons (.ret (.ix (.lst (.cons (.tup (.cons (.c (.str "nat")) .nil)) (.cons (.tup (.cons (.c (.str "zero")) .nil)) (.cons (.tup (.cons (.c (.str "same")) (.cons (.tup (.cons (.c (.str "nat")) .nil)) (.cons (.tup (.cons (.c (.str "zero")) .nil)) (.cons (.tup (.cons (.c (.str "zero")) .nil)) .nil))))) (.cons (.tup (.cons (.c (.str "var")) (.cons (.c (.int 0)) .nil))) .nil))))) (.bin .mod (.v 2) (.c (.int 4)))))
    .nil))))))))
/- _law_bent(_law_thing, _law_path, _law_way, _law_cell): 0 _law_thing, 1 _law_path, 2 _law_way, 3 _law_cell, 4 _law_at -/
def m_l_bent (c__law_bent c__law_spoilt : Nat) : Sms :=
    (.cons (.ift (.or' (.not' (.isi (.v 0) .tup)) (.or' (.cmp .lt (.bi .len (.cons (.v 0) .nil)) (.c (.int 2))) (.or' (.cmp .eq (.bin .mod (.v 1) (.c (.int 4))) (.c (.int 0))) (.not' (.isi (.ix (.v 0) (.neg (.c (.int 1)))) .tup))))) (.cons (.ret (.call c__law_spoilt (.cons (.v 0) (.cons (.v 2) (.cons (.v 3) .nil)))))
    .nil) .nil)
    (.cons (.asg (.nm 4) (.bin .add (.c (.int 1)) (.bin .mod (.bin .fdiv (.v 1) (.c (.int 4))) (.bin .sub (.bi .len (.cons (.v 0) .nil)) (.c (.int 1))))))
    (.cons (.ret (.bin .add (.bin .add (.sl (.v 0) .non (.one (.v 4))) (.tup (.cons (.call c__law_bent (.cons (.ix (.v 0) (.v 4)) (.cons (.bin .fdiv (.v 1) (.c (.int 16))) (.cons (.v 2) (.cons (.v 3) .nil))))) .nil))) (.sl (.v 0) (.one (.bin .add (.v 4) (.c (.int 1)))) .non)))
    .nil)))
/- law(_law_script): 0 _law_script, 1 _law_want, 2 _law_thing, 3 _law_far, 4 _law_deep, 5 _law_term, 6 _law_kind, 7 _law_due, 8 _law_told, 9 _law_side, 10 _law_k, 11 _law_one -/
def m_law (c_is_kind c_is_term c__law_right c__law_depth c__law_bent c__law_cell_at c__law_grown c__law_state : Nat) : Sms :=
    (.cons (.asg (.nm 1) (.ix (.lst (.cons (.c (.str "t")) (.cons (.c (.str "k")) .nil))) (.bin .mod (.call c__law_cell_at (.cons (.v 0) (.cons (.c (.int 1)) .nil))) (.c (.int 2)))))
    (.cons (.asg (.nm 2) (.call c__law_grown (.cons (.call c__law_state (.cons (.call c__law_cell_at (.cons (.v 0) (.cons (.c (.int 0)) .nil))) (.cons (.c (.int 120)) .nil))) (.cons (.v 1) (.cons (.c (.int 9)) .nil)))))
    (.cons (.asg (.nm 3) (.bin .mod (.call c__law_cell_at (.cons (.v 0) (.cons (.c (.int 2)) .nil))) (.c (.int 8))))
    (.cons (.ift (.cmp .lt (.v 3) (.c (.int 2))) (.cons (.asg (.nm 2) (.tup (.cons (.c (.str "zero")) .nil)))
    (.cons (.asg (.nm 9) (.tup (.cons (.c (.str "zero")) .nil)))
    (.cons (.for' (.nm 10) (.rng1 (.ix (.lst (.cons (.bin .add (.c (.int 36)) (.bin .mod (.call c__law_cell_at (.cons (.v 0) (.cons (.c (.int 3)) .nil))) (.c (.int 8)))) (.cons (.c (.int 8)) .nil))) (.v 3))) (.cons (.asg (.nm 2) (.ix (.lst (.cons (.tup (.cons (.c (.str "next")) (.cons (.v 2) .nil))) (.cons (.tup (.cons (.c (.str "app")) (.cons (.v 2) (.cons (.v 2) .nil)))) .nil))) (.v 3)))
    (.cons (.ift (.and' (.cmp .eq (.v 3) (.c (.int 1))) (.cmp .lt (.v 10) (.c (.int 5)))) (.cons (.asg (.nm 9) (.tup (.cons (.c (.str "app")) (.cons (.v 9) (.cons (.v 9) .nil)))))
    .nil) .nil)
    .nil)))
    (.cons (.ift (.cmp .eq (.v 3) (.c (.int 1))) (.cons (.for' (.nm 10) (.rng1 (.bin .add (.c (.int 23)) (.bin .mod (.call c__law_cell_at (.cons (.v 0) (.cons (.c (.int 3)) .nil))) (.c (.int 5))))) (.cons (.asg (.nm 9) (.tup (.cons (.c (.str "next")) (.cons (.v 9) .nil))))
    .nil))
    (.cons (.asg (.nm 2) (.tup (.cons (.c (.str "app")) (.cons (.v 2) (.cons (.v 9) .nil)))))
    .nil)) .nil)
    .nil)))) .nil)
    (.cons (.ift (.and' (.cmp .eq (.v 3) (.c (.int 0))) (.cmp .eq (.v 1) (.c (.str "k")))) (.cons (.asg (.nm 2) (.tup (.cons (.c (.str "same")) (.cons (.tup (.cons (.c (.str "nat")) .nil)) (.cons (.tup (.cons (.c (.str "zero")) .nil)) (.cons (.tup (.cons (.c (.str "zero")) .nil)) .nil))))))
    (.cons (.for' (.nm 10) (.rng1 (.bin .add (.c (.int 35)) (.bin .mod (.call c__law_cell_at (.cons (.v 0) (.cons (.c (.int 3)) .nil))) (.c (.int 7))))) (.cons (.asg (.nm 2) (.tup (.cons (.ix (.lst (.cons (.c (.str "all")) (.cons (.c (.str "some")) .nil))) (.bin .mod (.v 10) (.c (.int 2)))) (.cons (.tup (.cons (.c (.str "nat")) .nil)) (.cons (.v 2) .nil)))))
    .nil))
    .nil)) .nil)
    (.cons (.ift (.cmp .gt (.v 3) (.c (.int 4))) (.cons (.asg (.nm 2) (.call c__law_bent (.cons (.v 2) (.cons (.call c__law_cell_at (.cons (.v 0) (.cons (.c (.int 3)) .nil))) (.cons (.bin .mod (.call c__law_cell_at (.cons (.v 0) (.cons (.c (.int 4)) .nil))) (.c (.int 7))) (.cons (.call c__law_cell_at (.cons (.v 0) (.cons (.c (.int 5)) .nil))) .nil))))))
    .nil) .nil)
    (.cons (.asg (.nm 4) (.cmp .le (.call c__law_depth (.cons (.v 2) .nil)) (.c (.int 40))))
    (.cons (.asg (.nm 5) (.call c__law_right (.cons (.v 2) (.cons (.c (.str "t")) .nil))))
    (.cons (.asg (.nm 6) (.call c__law_right (.cons (.v 2) (.cons (.c (.str "k")) .nil))))
    (.cons (.asg (.nm 7) (.lst (.cons (.and' (.v 4) (.and' (.cmp .lt (.c (.int 0)) (.v 5)) (.cmp .le (.v 5) (.c (.int 600))))) (.cons (.and' (.v 4) (.and' (.cmp .lt (.c (.int 0)) (.v 6)) (.cmp .le (.v 6) (.c (.int 600))))) .nil))))
    (.cons (.asg (.nm 8) (.lst (.cons (.call c_is_term (.cons (.v 2) .nil)) (.cons (.call c_is_kind (.cons (.v 2) .nil)) .nil))))
    (.cons (.ret (.and' (.cmp .eq (.comp 11 (.val (.v 8)) .non (.isi (.v 11) .bool)) (.lst (.cons (.c (.bool true)) (.cons (.c (.bool true)) .nil)))) (.cmp .eq (.v 8) (.v 7))))
    .nil))))))))))))
/- words_of(text): 0 text, 1 found, 2 run, 3 sign -/
def m_words_of : Sms :=
    (.cons (.asg (.nm 1) (.lst .nil))
    (.cons (.asg (.nm 2) (.c (.str "")))
    (.cons (.for' (.nm 3) (.val (.bin .add (.v 0) (.c (.str " ")))) (.cons (.ift (.cmp .inn (.v 3) (.c (.str "() \n"))) (.cons (.ift (.cmp .ne (.v 2) (.c (.str ""))) (.cons (.ex (.mth .append (.v 1) (.cons (.v 2) .nil)))
    .nil) .nil)
    (.cons (.asg (.nm 2) (.c (.str "")))
    (.cons (.ift (.cmp .inn (.v 3) (.c (.str "()"))) (.cons (.ex (.mth .append (.v 1) (.cons (.v 3) .nil)))
    .nil) .nil)
    .nil))) (.cons (.asg (.nm 2) (.bin .add (.v 2) (.v 3)))
    .nil))
    .nil))
    (.cons (.ret (.v 1))
    .nil))))
/- _law_sign_by(_law_cell): 0 _law_cell, 1 _law_some -/
def m_l_sign_by : Sms :=
    (.cons (.ift (.cmp .lt (.bin .mod (.v 0) (.c (.int 5))) (.c (.int 2))) (.cons (.ret (.ix (.c (.str "() \n")) (.bin .mod (.bin .fdiv (.v 0) (.c (.int 5))) (.c (.int 4)))))
    .nil) .nil)
    (.cons (.ift (.cmp .eq (.bin .mod (.v 0) (.c (.int 25))) (.c (.int 3))) (.cons (.ret (.bin .mul (.c (.str "x")) (.bin .mod (.bin .fdiv (.v 0) (.c (.int 25))) (.c (.int 90)))))
    .nil) .nil)
    (.cons (.asg (.nm 1) (.c (.str " !\"#$&'()*+,-./0123456789:;<=>?@ABCDEFGHIJKLMNOPQRSTUVWXYZ[\\]^_`")))
    (.cons (.asg (.nm 1) (.bin .add (.v 1) (.c (.str "abcdefghijklmnopqrstuvwxyz{|}~"))))
    (.cons (.ret (.ix (.v 1) (.bin .mod (.bin .fdiv (.v 0) (.c (.int 5))) (.c (.int 94)))))
    .nil)))))
/- law(_law_script): 0 _law_script, 1 _law_line, 2 _law_due, 3 _law_run, 4 _law_sign, 5 _law_held, 6 _law_turn, 7 _law_found, 8 _law_k, 9 _law_cell -/
def m_law_v21 (c_words_of c__law_sign_by : Nat) : Sms :=
    (.cons (.asg (.nm 1) (.mth .join (.c (.str "")) (.cons (.comp 9 (.val (.v 0)) .non (.call c__law_sign_by (.cons (.v 9) .nil))) .nil)))
    (.cons (.asg (.nm 2) (.lst .nil))
    (.cons (.asg (.nm 3) (.c (.str "")))
    (.cons (.for' (.nm 4) (.val (.v 1)) (.cons (.ift (.or' (.cmp .eq (.v 4) (.c (.str " "))) (.or' (.cmp .eq (.v 4) (.c (.str "\n"))) (.or' (.cmp .eq (.v 4) (.c (.str "("))) (.cmp .eq (.v 4) (.c (.str ")")))))) (.cons (.ift (.cmp .ne (.v 3) (.c (.str ""))) (.cons (.ex (.mth .append (.v 2) (.cons (.v 3) .nil)))
    .nil) .nil)
    (.cons (.asg (.nm 3) (.c (.str "")))
    .nil)) (.cons (.asg (.nm 3) (.bin .add (.v 3) (.v 4)))
    .nil))
    (.cons (.ift (.or' (.cmp .eq (.v 4) (.c (.str "("))) (.cmp .eq (.v 4) (.c (.str ")")))) (.cons (.ex (.mth .append (.v 2) (.cons (.v 4) .nil)))
    .nil) .nil)
    .nil)))
    (.cons (.ift (.cmp .ne (.v 3) (.c (.str ""))) (.cons (.ex (.mth .append (.v 2) (.cons (.v 3) .nil)))
    .nil) .nil)
    (.cons (.asg (.nm 5) (.lst .nil))
    (.cons (.for' (.nm 6) (.val (.lst (.cons (.c (.int 0)) (.cons (.c (.int 1)) .nil)))) (.cons (.asg (.nm 7) (.call c_words_of (.cons (.v 1) .nil)))
    (.cons (.ift (.or' (.not' (.isi (.v 7) .lst)) (.cmp .ne (.bi .len (.cons (.v 7) .nil)) (.bi .len (.cons (.v 2) .nil)))) (.cons (.ret (.c (.bool false)))
    .nil) .nil)
    (.cons (.for' (.nm 8) (.rng1 (.bi .len (.cons (.v 2) .nil))) (.cons (.ift (.or' (.not' (.isi (.ix (.v 7) (.v 8)) .str)) (.cmp .ne (.ix (.v 7) (.v 8)) (.ix (.v 2) (.v 8)))) (.cons (.ret (.c (.bool false)))
    .nil) .nil)
    .nil))
    (.cons (.ex (.mth .append (.v 7) (.cons (.c (.str ")")) .nil)))
    (.cons (.ex (.mth .append (.v 5) (.cons (.tup (.cons (.v 7) (.cons (.bi .lst (.cons (.v 7) .nil)) .nil))) .nil)))
    .nil))))))
    (.cons (.ex (.call c_words_of (.cons (.c (.str "(a b)")) .nil)))
    (.cons (.ret (.and' (.cmp .eq (.ix (.ix (.v 5) (.c (.int 0))) (.c (.int 0))) (.ix (.ix (.v 5) (.c (.int 0))) (.c (.int 1)))) (.cmp .eq (.ix (.ix (.v 5) (.c (.int 1))) (.c (.int 0))) (.ix (.ix (.v 5) (.c (.int 1))) (.c (.int 1))))))
    .nil)))))))))
/- nth(number): 0 number -/
def m_nth : Sms :=
    (.cons (.ret (.tup (.cons (.c (.str "var")) (.cons (.v 0) .nil))))
    .nil)
/- called(name, terms): 0 name, 1 terms, 2 found, 3 term -/
def m_called : Sms :=
    (.cons (.asg (.nm 2) (.tup (.cons (.c (.str "name")) (.cons (.v 0) .nil))))
    (.cons (.for' (.nm 3) (.val (.v 1)) (.cons (.asg (.nm 2) (.tup (.cons (.c (.str "app")) (.cons (.v 2) (.cons (.v 3) .nil)))))
    .nil))
    (.cons (.ret (.v 2))
    .nil)))
/- sum_of(one, other): 0 one, 1 other -/
def m_sum_of (c_called : Nat) : Sms :=
    (.cons (.ret (.call c_called (.cons (.c (.str "plus")) (.cons (.lst (.cons (.v 0) (.cons (.v 1) .nil))) .nil))))
    .nil)
/- same(one, other): 0 one, 1 other -/
def m_same : Sms :=
    (.cons (.ret (.tup (.cons (.c (.str "same")) (.cons (.c (.tuple [(.str "nat")])) (.cons (.v 0) (.cons (.v 1) .nil))))))
    .nil)
/- for_all(kinds, last): 0 kinds, 1 last, 2 kind -/
def m_for_all : Sms :=
    (.cons (.for' (.nm 2) (.revL (.v 0)) (.cons (.asg (.nm 1) (.tup (.cons (.c (.str "all")) (.cons (.v 2) (.cons (.v 1) .nil)))))
    .nil))
    (.cons (.ret (.v 1))
    .nil))
/- fun_of(kinds, last): 0 kinds, 1 last, 2 kind -/
def m_fun_of : Sms :=
    (.cons (.for' (.nm 2) (.revL (.v 0)) (.cons (.asg (.nm 1) (.tup (.cons (.c (.str "fun")) (.cons (.v 2) (.cons (.v 1) .nil)))))
    .nil))
    (.cons (.ret (.v 1))
    .nil))
/- plus_pair(): 0 step -/
def m_plus_pair (c_fun_of c_nth c_for_all : Nat) : Sms :=
    (.cons (.asg (.nm 0) (.call c_fun_of (.cons (.lst (.cons (.c (.tuple [(.str "nat")])) (.cons (.c (.tuple [(.str "nat")])) .nil))) (.cons (.tup (.cons (.c (.str "next")) (.cons (.call c_nth (.cons (.c (.int 0)) .nil)) .nil))) .nil))))
    (.cons (.ret (.tup (.cons (.call c_for_all (.cons (.lst (.cons (.c (.tuple [(.str "nat")])) (.cons (.c (.tuple [(.str "nat")])) .nil))) (.cons (.c (.tuple [(.str "nat")])) .nil))) (.cons (.call c_fun_of (.cons (.lst (.cons (.c (.tuple [(.str "nat")])) (.cons (.c (.tuple [(.str "nat")])) .nil))) (.cons (.tup (.cons (.c (.str "rec")) (.cons (.c (.tuple [(.str "nat")])) (.cons (.call c_nth (.cons (.c (.int 0)) .nil)) (.cons (.v 0) (.cons (.call c_nth (.cons (.c (.int 1)) .nil)) .nil)))))) .nil))) .nil))))
    .nil))
/- times_pair(): 0 step -/
def m_times_pair (c_fun_of c_nth c_for_all c_sum_of : Nat) : Sms :=
    (.cons (.asg (.nm 0) (.call c_fun_of (.cons (.lst (.cons (.c (.tuple [(.str "nat")])) (.cons (.c (.tuple [(.str "nat")])) .nil))) (.cons (.call c_sum_of (.cons (.call c_nth (.cons (.c (.int 2)) .nil)) (.cons (.call c_nth (.cons (.c (.int 0)) .nil)) .nil))) .nil))))
    (.cons (.ret (.tup (.cons (.call c_for_all (.cons (.lst (.cons (.c (.tuple [(.str "nat")])) (.cons (.c (.tuple [(.str "nat")])) .nil))) (.cons (.c (.tuple [(.str "nat")])) .nil))) (.cons (.call c_fun_of (.cons (.lst (.cons (.c (.tuple [(.str "nat")])) (.cons (.c (.tuple [(.str "nat")])) .nil))) (.cons (.tup (.cons (.c (.str "rec")) (.cons (.c (.tuple [(.str "nat")])) (.cons (.c (.tuple [(.str "zero")])) (.cons (.v 0) (.cons (.call c_nth (.cons (.c (.int 1)) .nil)) .nil)))))) .nil))) .nil))))
    .nil))
/- turnabout_pair(): 0 kinds, 1 term -/
def m_turnabout_pair (c_fun_of c_for_all c_same c_nth : Nat) : Sms :=
    (.cons (.asg (.nm 0) (.lst (.cons (.c (.tuple [(.str "nat")])) (.cons (.c (.tuple [(.str "nat")])) (.cons (.call c_same (.cons (.call c_nth (.cons (.c (.int 1)) .nil)) (.cons (.call c_nth (.cons (.c (.int 0)) .nil)) .nil))) .nil)))))
    (.cons (.asg (.nm 1) (.tup (.cons (.c (.str "carry")) (.cons (.call c_same (.cons (.call c_nth (.cons (.c (.int 0)) .nil)) (.cons (.call c_nth (.cons (.c (.int 3)) .nil)) .nil))) (.cons (.tup (.cons (.c (.str "like")) (.cons (.c (.tuple [(.str "nat")])) (.cons (.call c_nth (.cons (.c (.int 2)) .nil)) .nil)))) (.cons (.call c_nth (.cons (.c (.int 0)) .nil)) .nil))))))
    (.cons (.ret (.tup (.cons (.call c_for_all (.cons (.v 0) (.cons (.call c_same (.cons (.call c_nth (.cons (.c (.int 1)) .nil)) (.cons (.call c_nth (.cons (.c (.int 2)) .nil)) .nil))) .nil))) (.cons (.call c_fun_of (.cons (.v 0) (.cons (.v 1) .nil))) .nil))))
    .nil)))
/- through_pair(): 0 kinds, 1 term -/
def m_through_pair (c_fun_of c_for_all c_same c_nth : Nat) : Sms :=
    (.cons (.asg (.nm 0) (.lst (.cons (.c (.tuple [(.str "nat")])) (.cons (.c (.tuple [(.str "nat")])) (.cons (.c (.tuple [(.str "nat")])) (.cons (.call c_same (.cons (.call c_nth (.cons (.c (.int 2)) .nil)) (.cons (.call c_nth (.cons (.c (.int 1)) .nil)) .nil))) (.cons (.call c_same (.cons (.call c_nth (.cons (.c (.int 2)) .nil)) (.cons (.call c_nth (.cons (.c (.int 1)) .nil)) .nil))) .nil)))))))
    (.cons (.asg (.nm 1) (.tup (.cons (.c (.str "carry")) (.cons (.call c_same (.cons (.call c_nth (.cons (.c (.int 5)) .nil)) (.cons (.call c_nth (.cons (.c (.int 0)) .nil)) .nil))) (.cons (.call c_nth (.cons (.c (.int 1)) .nil)) (.cons (.call c_nth (.cons (.c (.int 0)) .nil)) .nil))))))
    (.cons (.ret (.tup (.cons (.call c_for_all (.cons (.v 0) (.cons (.call c_same (.cons (.call c_nth (.cons (.c (.int 4)) .nil)) (.cons (.call c_nth (.cons (.c (.int 2)) .nil)) .nil))) .nil))) (.cons (.call c_fun_of (.cons (.v 0) (.cons (.v 1) .nil))) .nil))))
    .nil)))
/- nexts_pair(): 0 kinds, 1 first, 2 term -/
def m_nexts_pair (c_fun_of c_for_all c_same c_nth : Nat) : Sms :=
    (.cons (.asg (.nm 0) (.lst (.cons (.c (.tuple [(.str "nat")])) (.cons (.c (.tuple [(.str "nat")])) (.cons (.call c_same (.cons (.call c_nth (.cons (.c (.int 1)) .nil)) (.cons (.call c_nth (.cons (.c (.int 0)) .nil)) .nil))) .nil)))))
    (.cons (.asg (.nm 1) (.tup (.cons (.c (.str "like")) (.cons (.c (.tuple [(.str "nat")])) (.cons (.tup (.cons (.c (.str "next")) (.cons (.call c_nth (.cons (.c (.int 2)) .nil)) .nil))) .nil)))))
    (.cons (.asg (.nm 2) (.tup (.cons (.c (.str "carry")) (.cons (.call c_same (.cons (.tup (.cons (.c (.str "next")) (.cons (.call c_nth (.cons (.c (.int 3)) .nil)) .nil))) (.cons (.tup (.cons (.c (.str "next")) (.cons (.call c_nth (.cons (.c (.int 0)) .nil)) .nil))) .nil))) (.cons (.v 1) (.cons (.call c_nth (.cons (.c (.int 0)) .nil)) .nil))))))
    (.cons (.ret (.tup (.cons (.call c_for_all (.cons (.v 0) (.cons (.call c_same (.cons (.tup (.cons (.c (.str "next")) (.cons (.call c_nth (.cons (.c (.int 2)) .nil)) .nil))) (.cons (.tup (.cons (.c (.str "next")) (.cons (.call c_nth (.cons (.c (.int 1)) .nil)) .nil))) .nil))) .nil))) (.cons (.call c_fun_of (.cons (.v 0) (.cons (.v 2) .nil))) .nil))))
    .nil))))
/- pluszero_pair(): 0 kind, 1 step -/
def m_pluszero_pair (c_nth c_fun_of c_called c_sum_of c_same : Nat) : Sms :=
    (.cons (.asg (.nm 0) (.call c_same (.cons (.call c_sum_of (.cons (.call c_nth (.cons (.c (.int 0)) .nil)) (.cons (.c (.tuple [(.str "zero")])) .nil))) (.cons (.call c_nth (.cons (.c (.int 0)) .nil)) .nil))))
    (.cons (.asg (.nm 1) (.call c_fun_of (.cons (.lst (.cons (.c (.tuple [(.str "nat")])) (.cons (.v 0) .nil))) (.cons (.call c_called (.cons (.c (.str "nexts")) (.cons (.lst (.cons (.call c_sum_of (.cons (.call c_nth (.cons (.c (.int 1)) .nil)) (.cons (.c (.tuple [(.str "zero")])) .nil))) (.cons (.call c_nth (.cons (.c (.int 1)) .nil)) (.cons (.call c_nth (.cons (.c (.int 0)) .nil)) .nil)))) .nil))) .nil))))
    (.cons (.ret (.tup (.cons (.tup (.cons (.c (.str "all")) (.cons (.c (.tuple [(.str "nat")])) (.cons (.v 0) .nil)))) (.cons (.tup (.cons (.c (.str "fun")) (.cons (.c (.tuple [(.str "nat")])) (.cons (.tup (.cons (.c (.str "rec")) (.cons (.v 0) (.cons (.tup (.cons (.c (.str "like")) (.cons (.c (.tuple [(.str "nat")])) (.cons (.c (.tuple [(.str "zero")])) .nil)))) (.cons (.v 1) (.cons (.call c_nth (.cons (.c (.int 0)) .nil)) .nil)))))) .nil)))) .nil))))
    .nil)))
/- plusnext_pair(): 0 kind, 1 ends, 2 step, 3 first, 4 told -/
def m_plusnext_pair (c_fun_of c_nth c_for_all c_same c_sum_of c_called : Nat) : Sms :=
    (.cons (.asg (.nm 0) (.call c_same (.cons (.call c_sum_of (.cons (.call c_nth (.cons (.c (.int 0)) .nil)) (.cons (.tup (.cons (.c (.str "next")) (.cons (.call c_nth (.cons (.c (.int 1)) .nil)) .nil))) .nil))) (.cons (.tup (.cons (.c (.str "next")) (.cons (.call c_sum_of (.cons (.call c_nth (.cons (.c (.int 0)) .nil)) (.cons (.call c_nth (.cons (.c (.int 1)) .nil)) .nil))) .nil))) .nil))))
    (.cons (.asg (.nm 1) (.lst (.cons (.call c_sum_of (.cons (.call c_nth (.cons (.c (.int 1)) .nil)) (.cons (.tup (.cons (.c (.str "next")) (.cons (.call c_nth (.cons (.c (.int 2)) .nil)) .nil))) .nil))) (.cons (.tup (.cons (.c (.str "next")) (.cons (.call c_sum_of (.cons (.call c_nth (.cons (.c (.int 1)) .nil)) (.cons (.call c_nth (.cons (.c (.int 2)) .nil)) .nil))) .nil))) (.cons (.call c_nth (.cons (.c (.int 0)) .nil)) .nil)))))
    (.cons (.asg (.nm 2) (.call c_fun_of (.cons (.lst (.cons (.c (.tuple [(.str "nat")])) (.cons (.v 0) .nil))) (.cons (.call c_called (.cons (.c (.str "nexts")) (.cons (.v 1) .nil))) .nil))))
    (.cons (.asg (.nm 3) (.tup (.cons (.c (.str "like")) (.cons (.c (.tuple [(.str "nat")])) (.cons (.tup (.cons (.c (.str "next")) (.cons (.call c_nth (.cons (.c (.int 0)) .nil)) .nil))) .nil)))))
    (.cons (.asg (.nm 4) (.call c_same (.cons (.call c_sum_of (.cons (.call c_nth (.cons (.c (.int 1)) .nil)) (.cons (.tup (.cons (.c (.str "next")) (.cons (.call c_nth (.cons (.c (.int 0)) .nil)) .nil))) .nil))) (.cons (.tup (.cons (.c (.str "next")) (.cons (.call c_sum_of (.cons (.call c_nth (.cons (.c (.int 1)) .nil)) (.cons (.call c_nth (.cons (.c (.int 0)) .nil)) .nil))) .nil))) .nil))))
    (.cons (.ret (.tup (.cons (.call c_for_all (.cons (.lst (.cons (.c (.tuple [(.str "nat")])) (.cons (.c (.tuple [(.str "nat")])) .nil))) (.cons (.v 4) .nil))) (.cons (.call c_fun_of (.cons (.lst (.cons (.c (.tuple [(.str "nat")])) (.cons (.c (.tuple [(.str "nat")])) .nil))) (.cons (.tup (.cons (.c (.str "rec")) (.cons (.v 0) (.cons (.v 3) (.cons (.v 2) (.cons (.call c_nth (.cons (.c (.int 1)) .nil)) .nil)))))) .nil))) .nil))))
    .nil))))))
/- commutes_pair(): 0 kind, 1 first, 2 one, 3 other, 4 last, 5 up, 6 back, 7 step, 8 told -/
def m_commutes_pair (c_fun_of c_nth c_for_all c_same c_sum_of c_called : Nat) : Sms :=
    (.cons (.asg (.nm 0) (.call c_same (.cons (.call c_sum_of (.cons (.call c_nth (.cons (.c (.int 0)) .nil)) (.cons (.call c_nth (.cons (.c (.int 1)) .nil)) .nil))) (.cons (.call c_sum_of (.cons (.call c_nth (.cons (.c (.int 1)) .nil)) (.cons (.call c_nth (.cons (.c (.int 0)) .nil)) .nil))) .nil))))
    (.cons (.asg (.nm 1) (.call c_called (.cons (.c (.str "turnabout")) (.cons (.lst (.cons (.call c_sum_of (.cons (.call c_nth (.cons (.c (.int 0)) .nil)) (.cons (.c (.tuple [(.str "zero")])) .nil))) (.cons (.call c_nth (.cons (.c (.int 0)) .nil)) (.cons (.call c_called (.cons (.c (.str "pluszero")) (.cons (.lst (.cons (.call c_nth (.cons (.c (.int 0)) .nil)) .nil)) .nil))) .nil)))) .nil))))
    (.cons (.asg (.nm 2) (.call c_sum_of (.cons (.call c_nth (.cons (.c (.int 1)) .nil)) (.cons (.call c_nth (.cons (.c (.int 2)) .nil)) .nil))))
    (.cons (.asg (.nm 3) (.call c_sum_of (.cons (.call c_nth (.cons (.c (.int 2)) .nil)) (.cons (.call c_nth (.cons (.c (.int 1)) .nil)) .nil))))
    (.cons (.asg (.nm 4) (.call c_sum_of (.cons (.call c_nth (.cons (.c (.int 2)) .nil)) (.cons (.tup (.cons (.c (.str "next")) (.cons (.call c_nth (.cons (.c (.int 1)) .nil)) .nil))) .nil))))
    (.cons (.asg (.nm 5) (.call c_called (.cons (.c (.str "nexts")) (.cons (.lst (.cons (.v 2) (.cons (.v 3) (.cons (.call c_nth (.cons (.c (.int 0)) .nil)) .nil)))) .nil))))
    (.cons (.asg (.nm 6) (.call c_called (.cons (.c (.str "turnabout")) (.cons (.lst (.cons (.v 4) (.cons (.tup (.cons (.c (.str "next")) (.cons (.v 3) .nil))) (.cons (.call c_called (.cons (.c (.str "plusnext")) (.cons (.lst (.cons (.call c_nth (.cons (.c (.int 2)) .nil)) (.cons (.call c_nth (.cons (.c (.int 1)) .nil)) .nil))) .nil))) .nil)))) .nil))))
    (.cons (.asg (.nm 7) (.call c_fun_of (.cons (.lst (.cons (.c (.tuple [(.str "nat")])) (.cons (.v 0) .nil))) (.cons (.call c_called (.cons (.c (.str "through")) (.cons (.lst (.cons (.tup (.cons (.c (.str "next")) (.cons (.v 2) .nil))) (.cons (.tup (.cons (.c (.str "next")) (.cons (.v 3) .nil))) (.cons (.v 4) (.cons (.v 5) (.cons (.v 6) .nil)))))) .nil))) .nil))))
    (.cons (.asg (.nm 8) (.call c_same (.cons (.call c_sum_of (.cons (.call c_nth (.cons (.c (.int 1)) .nil)) (.cons (.call c_nth (.cons (.c (.int 0)) .nil)) .nil))) (.cons (.call c_sum_of (.cons (.call c_nth (.cons (.c (.int 0)) .nil)) (.cons (.call c_nth (.cons (.c (.int 1)) .nil)) .nil))) .nil))))
    (.cons (.ret (.tup (.cons (.call c_for_all (.cons (.lst (.cons (.c (.tuple [(.str "nat")])) (.cons (.c (.tuple [(.str "nat")])) .nil))) (.cons (.v 8) .nil))) (.cons (.call c_fun_of (.cons (.lst (.cons (.c (.tuple [(.str "nat")])) (.cons (.c (.tuple [(.str "nat")])) .nil))) (.cons (.tup (.cons (.c (.str "rec")) (.cons (.v 0) (.cons (.v 1) (.cons (.v 7) (.cons (.call c_nth (.cons (.c (.int 1)) .nil)) .nil)))))) .nil))) .nil))))
    .nil))))))))))
/- doubled_pair(): 0 twice, 1 kind -/
def m_doubled_pair (c_same c_sum_of c_nth : Nat) : Sms :=
    (.cons (.asg (.nm 0) (.call c_sum_of (.cons (.call c_nth (.cons (.c (.int 0)) .nil)) (.cons (.call c_nth (.cons (.c (.int 0)) .nil)) .nil))))
    (.cons (.asg (.nm 1) (.tup (.cons (.c (.str "some")) (.cons (.c (.tuple [(.str "nat")])) (.cons (.call c_same (.cons (.call c_nth (.cons (.c (.int 0)) .nil)) (.cons (.call c_sum_of (.cons (.call c_nth (.cons (.c (.int 1)) .nil)) (.cons (.call c_nth (.cons (.c (.int 1)) .nil)) .nil))) .nil))) .nil)))))
    (.cons (.ret (.tup (.cons (.tup (.cons (.c (.str "all")) (.cons (.c (.tuple [(.str "nat")])) (.cons (.v 1) .nil)))) (.cons (.tup (.cons (.c (.str "fun")) (.cons (.c (.tuple [(.str "nat")])) (.cons (.tup (.cons (.c (.str "pair")) (.cons (.v 1) (.cons (.v 0) (.cons (.tup (.cons (.c (.str "like")) (.cons (.c (.tuple [(.str "nat")])) (.cons (.v 0) .nil)))) .nil))))) .nil)))) .nil))))
    .nil)))
/- basics(): 0 book -/
def m_basics (c_doubled_pair c_commutes_pair c_plusnext_pair c_pluszero_pair c_nexts_pair c_through_pair c_turnabout_pair c_times_pair c_plus_pair : Nat) : Sms :=
    (.cons (.asg (.nm 0) (.dct [] .nil))
    (.cons (.setI (.v 0) (.c (.str "plus")) (.call c_plus_pair .nil))
    (.cons (.setI (.v 0) (.c (.str "times")) (.call c_times_pair .nil))
    (.cons (.setI (.v 0) (.c (.str "turnabout")) (.call c_turnabout_pair .nil))
    (.cons (.setI (.v 0) (.c (.str "through")) (.call c_through_pair .nil))
    (.cons (.setI (.v 0) (.c (.str "nexts")) (.call c_nexts_pair .nil))
    (.cons (.setI (.v 0) (.c (.str "pluszero")) (.call c_pluszero_pair .nil))
    (.cons (.setI (.v 0) (.c (.str "plusnext")) (.call c_plusnext_pair .nil))
    (.cons (.setI (.v 0) (.c (.str "commutes")) (.call c_commutes_pair .nil))
    (.cons (.setI (.v 0) (.c (.str "doubled")) (.call c_doubled_pair .nil))
    (.cons (.ret (.v 0))
    .nil)))))))))))
/- _law_number(_law_many): 0 _law_many, 1 _law_thing, 2 _law_k -/
def m_l_number_v2 : Sms :=
    (.cons (.asg (.nm 1) (.tup (.cons (.c (.str "zero")) .nil)))
    (.cons (.for' (.nm 2) (.rng1 (.v 0)) (.cons (.asg (.nm 1) (.tup (.cons (.c (.str "next")) (.cons (.v 1) .nil))))
    .nil))
    (.cons (.ret (.v 1))
    .nil)))
/- law(_law_script): 0 _law_script, 1 _law_most, 2 _law_one, 3 _law_word, 4 _law_other, 5 _law_due, 6 _law_term, 7 _law_told -/
def m_law_v29 (c_walked c_basics c_normal c__law_alike c__law_number c__law_cell_at : Nat) : Sms :=
    (.cons (.asg (.nm 1) (.c (.int 6)))
    (.cons (.ift (.cmp .eq (.bin .mod (.call c__law_cell_at (.cons (.v 0) (.cons (.c (.int 2)) .nil))) (.c (.int 4))) (.c (.int 1))) (.cons (.asg (.nm 1) (.c (.int 12)))
    .nil) .nil)
    (.cons (.asg (.nm 2) (.bin .mod (.call c__law_cell_at (.cons (.v 0) (.cons (.c (.int 0)) .nil))) (.bin .add (.v 1) (.c (.int 1)))))
    (.cons (.asg (.nm 3) (.ix (.lst (.cons (.c (.str "plus")) (.cons (.c (.str "times")) .nil))) (.bin .mod (.call c__law_cell_at (.cons (.v 0) (.cons (.c (.int 3)) .nil))) (.c (.int 2)))))
    (.cons (.asg (.nm 4) (.bin .mod (.call c__law_cell_at (.cons (.v 0) (.cons (.c (.int 1)) .nil))) (.bin .add (.bin .sub (.v 1) (.v 2)) (.c (.int 1)))))
    (.cons (.asg (.nm 5) (.bin .add (.v 2) (.v 4)))
    (.cons (.ift (.cmp .eq (.v 3) (.c (.str "times"))) (.cons (.asg (.nm 4) (.bin .mod (.call c__law_cell_at (.cons (.v 0) (.cons (.c (.int 1)) .nil))) (.bin .add (.bin .fdiv (.v 1) (.bi .max2 (.cons (.v 2) (.cons (.c (.int 1)) .nil)))) (.c (.int 1)))))
    (.cons (.asg (.nm 5) (.bin .mul (.v 2) (.v 4)))
    .nil)) .nil)
    (.cons (.asg (.nm 6) (.tup (.cons (.c (.str "app")) (.cons (.tup (.cons (.c (.str "app")) (.cons (.tup (.cons (.c (.str "name")) (.cons (.v 3) .nil))) (.cons (.call c__law_number (.cons (.v 2) .nil)) .nil)))) (.cons (.call c__law_number (.cons (.v 4) .nil)) .nil)))))
    (.cons (.asg (.nm 7) (.call c_normal (.cons (.v 6) (.cons (.c (.int 1000)) (.cons (.call c_basics .nil) .nil)))))
    (.cons (.ift (.not' (.call c__law_alike (.cons (.ix (.v 7) (.c (.int 0))) (.cons (.call c__law_number (.cons (.v 5) .nil)) .nil)))) (.cons (.ret (.c (.bool false)))
    .nil) .nil)
    (.cons (.ift (.cmp .gt (.bi .len (.cons (.ix (.v 7) (.c (.int 1))) .nil)) (.c (.int 60))) (.cons (.ret (.c (.bool true)))
    .nil) .nil)
    (.cons (.ret (.and' (.cmp .eq (.call c_walked (.cons (.v 6) (.cons (.ix (.v 7) (.c (.int 1))) (.cons (.call c_basics .nil) .nil)))) (.ix (.v 7) (.c (.int 0)))) (.cmp .eq (.call c_normal (.cons (.v 6) (.cons (.bi .len (.cons (.ix (.v 7) (.c (.int 1))) .nil)) (.cons (.call c_basics .nil) .nil)))) (.v 7))))
    .nil))))))))))))
end Kp

set_option Elab.async false
set_option linter.all false
set_option maxRecDepth 100000
set_option maxHeartbeats 0
set_option autoImplicit false
/-! the head of the law k10_a_thing_by_its_shape: the tables. -/
namespace Kp.k10
open PySem PySem.Spec PyProof.Rows L2
def st (i : Nat) : Stmt := PySem.Challenge.pw_keeper_k10_a_thing_by_its_shape.main.body.getD i (.Pass ⟨0, 0, 0, 0⟩)
def d0 : DD := ⟨st 5, "shape_of", ["word"], ["word"], m_shape_of⟩
def d1 : DD := ⟨st 6, "is_kind_word", ["word"], ["word"], m_is_kind_word⟩
def d2 : DD := ⟨st 7, "is_number", ["thing"], ["thing"], m_is_number⟩
def d3 : DD := ⟨st 8, "is_name", ["thing", "sign"], ["thing"], m_is_name 0⟩
def d4 : DD := ⟨st 9, "knots_if", ["thing", "want", "left", "shape", "total", "place", "part", "many"], ["thing", "want", "left"], m_knots_if 4 2 3 1 0⟩
def d5 : DD := ⟨st 10, "is_term", ["thing"], ["thing"], m_is_term 4⟩
def d6 : DD := ⟨st 11, "is_kind", ["thing"], ["thing"], m_is_kind 4⟩
def d7 : DD := ⟨st 13, "_law_cell_at", ["_law_script", "_law_k"], ["_law_script", "_law_k"], m_l_cell_at⟩
def d8 : DD := ⟨st 14, "_law_next", ["_law_state_here"], ["_law_state_here"], m_l_next⟩
def d9 : DD := ⟨st 15, "_law_state", ["_law_cell", "_law_most"], ["_law_cell", "_law_most"], m_l_state⟩
def d10 : DD := ⟨st 16, "_law_shape", ["_law_word", "_law_shapes", "_law_more"], ["_law_word"], m_l_shape⟩
def d11 : DD := ⟨st 17, "_law_name", ["_law_number", "_law_some", "_law_word"], ["_law_number"], m_l_name⟩
def d12 : DD := ⟨st 18, "_law_grown", ["_law_state_here", "_law_want", "_law_left", "_law_number", "_law_word", "_law_parts", "_law_kind", "_law_words"], ["_law_state_here", "_law_want", "_law_left"], m_l_grown 10 12 11 8⟩
def d13 : DD := ⟨st 19, "_law_right", ["_law_thing", "_law_want", "_law_shape_here", "_law_knots", "_law_k", "_law_part", "_law_many", "_law_sign"], ["_law_thing", "_law_want"], m_l_right 10 13⟩
def d14 : DD := ⟨st 20, "_law_depth", ["_law_thing", "_law_part"], ["_law_thing"], m_l_depth 14⟩
def d15 : DD := ⟨st 21, "_law_spoilt", ["_law_thing", "_law_way", "_law_cell", "_law_words", "_law_some"], ["_law_thing", "_law_way", "_law_cell"], m_l_spoilt⟩
def d16 : DD := ⟨st 22, "_law_bent", ["_law_thing", "_law_path", "_law_way", "_law_cell", "_law_at"], ["_law_thing", "_law_path", "_law_way", "_law_cell"], m_l_bent 16 15⟩
def d17 : DD := ⟨st 23, "law", ["_law_script", "_law_want", "_law_thing", "_law_far", "_law_deep", "_law_term", "_law_kind", "_law_due", "_law_told", "_law_side", "_law_k", "_law_one"], ["_law_script"], m_law 6 5 13 14 16 7 12 9⟩
def dd : List DD := [d0, d1, d2, d3, d4, d5, d6, d7, d8, d9, d10, d11, d12, d13, d14, d15, d16, d17]
def fre : List Str := ["all", "bool", "int", "isinstance", "len", "max", "range", "str", "tuple"]
def cst : List (Str × Cst) := [("MOST_KNOTS", .int 600), ("DEEPEST", .int 40), ("GREATEST", .int 99), ("LETTERS", .str "abcdefghijklmnopqrstuvwxyz")]
def cls : List Str := []
def exm : List (Nat × Nat × Bool) := []
def ht : Hot := ⟨[], [], []⟩
def g : GL := glOf dd fre cst cls exm ht
def T : Nat → Option FD := tabOf dd
theorem s0 : Stc g T d0 0 := ⟨⟨⟨rfl, rfl, rfl, by decide +kernel, rfl, by decide +kernel, by decide +kernel⟩, ⟨_, rfl, readD_ok (by kernel_rfl)⟩, fun h => absurd h (by decide)⟩, fun _ _ _ _ _ _ us hl => match us, hl with | [_], _ => rfl⟩
theorem s1 : Stc g T d1 1 := ⟨⟨⟨rfl, rfl, rfl, by decide +kernel, rfl, by decide +kernel, by decide +kernel⟩, ⟨_, rfl, readD_ok (by kernel_rfl)⟩, fun h => absurd h (by decide)⟩, fun _ _ _ _ _ _ us hl => match us, hl with | [_], _ => rfl⟩
theorem s2 : Stc g T d2 2 := ⟨⟨⟨rfl, rfl, rfl, by decide +kernel, rfl, by decide +kernel, by decide +kernel⟩, ⟨_, rfl, readD_ok (by kernel_rfl)⟩, fun h => absurd h (by decide)⟩, fun _ _ _ _ _ _ us hl => match us, hl with | [_], _ => rfl⟩
theorem s3 : Stc g T d3 3 := ⟨⟨⟨rfl, rfl, rfl, by decide +kernel, rfl, by decide +kernel, by decide +kernel⟩, ⟨_, rfl, readD_ok (by kernel_rfl)⟩, fun h => absurd h (by decide)⟩, fun _ _ _ _ _ _ us hl => match us, hl with | [_], _ => rfl⟩
theorem s4 : Stc g T d4 4 := ⟨⟨⟨rfl, rfl, rfl, by decide +kernel, rfl, by decide +kernel, by decide +kernel⟩, ⟨_, rfl, readD_ok (by kernel_rfl)⟩, fun h => absurd h (by decide)⟩, fun _ _ _ _ _ _ us hl => match us, hl with | [_, _, _], _ => rfl⟩
theorem s5 : Stc g T d5 5 := ⟨⟨⟨rfl, rfl, rfl, by decide +kernel, rfl, by decide +kernel, by decide +kernel⟩, ⟨_, rfl, readD_ok (by kernel_rfl)⟩, fun h => absurd h (by decide)⟩, fun _ _ _ _ _ _ us hl => match us, hl with | [_], _ => rfl⟩
theorem s6 : Stc g T d6 6 := ⟨⟨⟨rfl, rfl, rfl, by decide +kernel, rfl, by decide +kernel, by decide +kernel⟩, ⟨_, rfl, readD_ok (by kernel_rfl)⟩, fun h => absurd h (by decide)⟩, fun _ _ _ _ _ _ us hl => match us, hl with | [_], _ => rfl⟩
theorem s7 : Stc g T d7 7 := ⟨⟨⟨rfl, rfl, rfl, by decide +kernel, rfl, by decide +kernel, by decide +kernel⟩, ⟨_, rfl, readD_ok (by kernel_rfl)⟩, fun h => absurd h (by decide)⟩, fun _ _ _ _ _ _ us hl => match us, hl with | [_, _], _ => rfl⟩
theorem s8 : Stc g T d8 8 := ⟨⟨⟨rfl, rfl, rfl, by decide +kernel, rfl, by decide +kernel, by decide +kernel⟩, ⟨_, rfl, readD_ok (by kernel_rfl)⟩, fun h => absurd h (by decide)⟩, fun _ _ _ _ _ _ us hl => match us, hl with | [_], _ => rfl⟩
theorem s9 : Stc g T d9 9 := ⟨⟨⟨rfl, rfl, rfl, by decide +kernel, rfl, by decide +kernel, by decide +kernel⟩, ⟨_, rfl, readD_ok (by kernel_rfl)⟩, fun h => absurd h (by decide)⟩, fun _ _ _ _ _ _ us hl => match us, hl with | [_, _], _ => rfl⟩
theorem s10 : Stc g T d10 10 := ⟨⟨⟨rfl, rfl, rfl, by decide +kernel, rfl, by decide +kernel, by decide +kernel⟩, ⟨_, rfl, readD_ok (by kernel_rfl)⟩, fun h => absurd h (by decide)⟩, fun _ _ _ _ _ _ us hl => match us, hl with | [_], _ => rfl⟩
theorem s11 : Stc g T d11 11 := ⟨⟨⟨rfl, rfl, rfl, by decide +kernel, rfl, by decide +kernel, by decide +kernel⟩, ⟨_, rfl, readD_ok (by kernel_rfl)⟩, fun h => absurd h (by decide)⟩, fun _ _ _ _ _ _ us hl => match us, hl with | [_], _ => rfl⟩
theorem s12 : Stc g T d12 12 := ⟨⟨⟨rfl, rfl, rfl, by decide +kernel, rfl, by decide +kernel, by decide +kernel⟩, ⟨_, rfl, readD_ok (by kernel_rfl)⟩, fun h => absurd h (by decide)⟩, fun _ _ _ _ _ _ us hl => match us, hl with | [_, _, _], _ => rfl⟩
theorem s13 : Stc g T d13 13 := ⟨⟨⟨rfl, rfl, rfl, by decide +kernel, rfl, by decide +kernel, by decide +kernel⟩, ⟨_, rfl, readD_ok (by kernel_rfl)⟩, fun h => absurd h (by decide)⟩, fun _ _ _ _ _ _ us hl => match us, hl with | [_, _], _ => rfl⟩
theorem s14 : Stc g T d14 14 := ⟨⟨⟨rfl, rfl, rfl, by decide +kernel, rfl, by decide +kernel, by decide +kernel⟩, ⟨_, rfl, readD_ok (by kernel_rfl)⟩, fun h => absurd h (by decide)⟩, fun _ _ _ _ _ _ us hl => match us, hl with | [_], _ => rfl⟩
theorem s15 : Stc g T d15 15 := ⟨⟨⟨rfl, rfl, rfl, by decide +kernel, rfl, by decide +kernel, by decide +kernel⟩, ⟨_, rfl, readD_ok (by kernel_rfl)⟩, fun h => absurd h (by decide)⟩, fun _ _ _ _ _ _ us hl => match us, hl with | [_, _, _], _ => rfl⟩
theorem s16 : Stc g T d16 16 := ⟨⟨⟨rfl, rfl, rfl, by decide +kernel, rfl, by decide +kernel, by decide +kernel⟩, ⟨_, rfl, readD_ok (by kernel_rfl)⟩, fun h => absurd h (by decide)⟩, fun _ _ _ _ _ _ us hl => match us, hl with | [_, _, _, _], _ => rfl⟩
theorem s17 : Stc g T d17 17 := ⟨⟨⟨rfl, rfl, rfl, by decide +kernel, rfl, by decide +kernel, by decide +kernel⟩, ⟨_, rfl, readD_ok (by kernel_rfl)⟩, fun h => absurd h (by decide)⟩, fun _ _ _ _ _ _ us hl => match us, hl with | [_], _ => rfl⟩
theorem stc : AllS g T dd 0 := ⟨s0, s1, s2, s3, s4, s5, s6, s7, s8, s9, s10, s11, s12, s13, s14, s15, s16, s17, trivial⟩
theorem r0 (n : Nat) : callE T (n + 1) 0 = runD (callE T n) 1 1 d0.m := callE_run rfl
theorem r1 (n : Nat) : callE T (n + 1) 1 = runD (callE T n) 1 1 d1.m := callE_run rfl
theorem r2 (n : Nat) : callE T (n + 1) 2 = runD (callE T n) 1 1 d2.m := callE_run rfl
theorem r3 (n : Nat) : callE T (n + 1) 3 = runD (callE T n) 1 2 d3.m := callE_run rfl
theorem r4 (n : Nat) : callE T (n + 1) 4 = runD (callE T n) 3 8 d4.m := callE_run rfl
theorem r5 (n : Nat) : callE T (n + 1) 5 = runD (callE T n) 1 1 d5.m := callE_run rfl
theorem r6 (n : Nat) : callE T (n + 1) 6 = runD (callE T n) 1 1 d6.m := callE_run rfl
theorem r7 (n : Nat) : callE T (n + 1) 7 = runD (callE T n) 2 2 d7.m := callE_run rfl
theorem r8 (n : Nat) : callE T (n + 1) 8 = runD (callE T n) 1 1 d8.m := callE_run rfl
theorem r9 (n : Nat) : callE T (n + 1) 9 = runD (callE T n) 2 2 d9.m := callE_run rfl
theorem r10 (n : Nat) : callE T (n + 1) 10 = runD (callE T n) 1 3 d10.m := callE_run rfl
theorem r11 (n : Nat) : callE T (n + 1) 11 = runD (callE T n) 1 3 d11.m := callE_run rfl
theorem r12 (n : Nat) : callE T (n + 1) 12 = runD (callE T n) 3 8 d12.m := callE_run rfl
theorem r13 (n : Nat) : callE T (n + 1) 13 = runD (callE T n) 2 8 d13.m := callE_run rfl
theorem r14 (n : Nat) : callE T (n + 1) 14 = runD (callE T n) 1 2 d14.m := callE_run rfl
theorem r15 (n : Nat) : callE T (n + 1) 15 = runD (callE T n) 3 5 d15.m := callE_run rfl
theorem r16 (n : Nat) : callE T (n + 1) 16 = runD (callE T n) 4 5 d16.m := callE_run rfl
theorem r17 (n : Nat) : callE T (n + 1) 17 = runD (callE T n) 1 12 d17.m := callE_run rfl
end Kp.k10

set_option Elab.async false
set_option linter.all false
set_option maxRecDepth 100000
set_option maxHeartbeats 0
/-! the end of the law k10_a_thing_by_its_shape. -/
namespace Kp.k10
open PySem PySem.Spec PyProof.Rows L2
def fn : List He.DefD := fnOfD dd
def fa : List He.Fa := faOfD dd fre cst cls exm
abbrev R : PySem.W.OpenRow := PySem.W.OpenLaw.row PySem.Challenge.rw_keeper_k10_a_thing_by_its_shape
abbrev hk : PySem.W.Hook := He.hookX 4 fa fn [] [] (isxB cls ht)
def ob (s : PySem.W.SharedT) : He.AlX := He.obsX 4 fa fn [] [] (isxB cls ht) (HandSHeadRun.getT s)
theorem ob_eq (s : PySem.W.SharedT) : ob s = hk.obs s.abs := He.obsX_eq (HandSHeadRun.getT_eq s)
def loose : List Str := (["__name__", "MOST_KNOTS", "DEEPEST", "GREATEST", "LETTERS", "shape_of", "is_kind_word", "is_number", "is_name", "knots_if", "is_term", "is_kind", "_law_cell_at", "_law_next", "_law_state", "_law_shape", "_law_name", "_law_grown", "_law_right", "_law_depth", "_law_spoilt", "_law_bent"] : List Str)
theorem run (w : World) : HandSHeadRun.RunEq R (PySem.W.view R.prog [23]) hk ob 20000 loose w := by
  intro os
  kernel_rfl
theorem facts {P : Program} {w : World} {K : PySem.W.Frag} {h : Heap} {mg : Str → Option Value} {f : Addr} (X : K.In h) (G : h.Ns mainGlobals mg) (hfa : mg ("law" : Str) = some (.ref f)) (c : He.SaysD fa fn K) (e : isxB cls ht K = true) :
    ∃ fd : FuncData, (∀ (s : Shared) (v : Value), BindsTo s fd ⟨[v], []⟩ [(("_law_script" : Str), v)]) ∧ ∀ base : Heap, K.In base → base.Ns mainGlobals mg → FnOk P w K mg base (L2N.CX P w) 230 f fd [("_law_script" : Str)] (@spE xc0 K (cvOf K cls) (callE T 230) 17) := by
  obtain ⟨fd, F⟩ := c.def_ 17 (d := DD.fn d17) rfl
  have e1 := hfa.symm.trans (He.glo_ok X G (x := ("law" : Str)) (fact_mem c (show He.Fa.glo (("law" : Str)) ∈ fa from List.mem_of_getElem? (i := 17) rfl)))
  cases e1
  have b := FunD.bindsA (ps := [("_law_script" : Str)]) F fun _ _ _ _ _ _ us hl => match us, hl with | [_], _ => rfl
  refine ⟨fd, fun s v => b s [v] rfl, fun base hK hb => ?_⟩
  exact def_ok (n := 229) (facts_ok X G c e) F s17.ok (all_ok (facts_ok X G c e) (defs_ok X G c stc) 229)
end Kp.k10
open PySem PySem.W PySem.Calls PyProof.Rows
theorem Kp.k10.ends (hE : ∀ ns : List Int, ns.length ≤ 63 → ∃ S, Kp.callE Kp.k10.T 230 17 [.p (.list (ns.map PyData.int))] [] = .ok (.p (.bool true)) S) : PySem.Challenge.rw_keeper_k10_a_thing_by_its_shape.Holds := by
  w_on; o_law
  refine HandSHeadRun.head_any (r := OpenLaw.row PySem.Challenge.rw_keeper_k10_a_thing_by_its_shape) (q := view (OpenLaw.row PySem.Challenge.rw_keeper_k10_a_thing_by_its_shape).prog [23]) (H := Kp.k10.hk) (ob := Kp.k10.ob) (M := 20000) (loose := Kp.k10.loose) (d := HandSHeadRun.topDef (OpenLaw.row PySem.Challenge.rw_keeper_k10_a_thing_by_its_shape).prog 23) (kwd := []) Kp.k10.ob_eq
    (by kernel_rfl) (fun s => by kernel_rfl) Kp.k10.run (by kernel_rfl) (by kernel_rfl) (by kernel_rfl) (by rfl) (by first | assumption | decide +kernel) (by decide +kernel) ⟨rfl, rfl, rfl, rfl, rfl, by decide +kernel⟩ ?hw ?hc
  case hw => w_witness2
  case hc =>
    refine Kp.walk_w (l := PySem.Challenge.rw_keeper_k10_a_thing_by_its_shape) (n := 63) (k := 230) (x := "_law_script") rfl (by decide) (by kernel_rfl) ⟨rfl, by decide, by decide⟩ ?F
    case F =>
      intro w mg fa h Y G hmg0
      obtain ⟨K, KX, c⟩ := Y
      have hmg : mg ("law" : PySem.Str) = some (.ref fa) := by
        have e : (HandSHeadRun.topDef (OpenLaw.row PySem.Challenge.rw_keeper_k10_a_thing_by_its_shape).prog 23).name = ("law" : PySem.Str) := by kernel_rfl
        rw [← e]
        exact hmg0
      obtain ⟨fd, hb, hF⟩ := Kp.k10.facts (P := (PySem.Challenge.rw_keeper_k10_a_thing_by_its_shape).prog) (w := w) KX G hmg c.t.d c.more
      exact ⟨K, fd, _, KX, hb, fun H a ns hl hO hS => (hE ns hl).elim fun S hr => Kp.law_sp hO hS hr, hF⟩


set_option Elab.async false
set_option linter.all false
set_option maxRecDepth 100000
set_option maxHeartbeats 8000000
set_option autoImplicit false
/-! La: loops, comprehensions, texts' signs. -/
namespace Kp
open PySem PySem.Spec PyProof.Rows L2
/-! loops -/
def RS.lp (r : RS) (f : En → Sto → RS) : RS := match r with
  | .nx en S => f en S
  | .ct en S => f en S
  | q => q
section
variable {en : En} {S : Sto} {f : En → Sto → RS} {v : PV} {c : Nat}
@[simp] theorem lp_nx : (RS.nx en S).lp f = f en S := id rfl
@[simp] theorem lp_ct : (RS.ct en S).lp f = f en S := id rfl
@[simp] theorem lp_rt : (RS.rt v S).lp f = .rt v S := id rfl
@[simp] theorem lp_ex : (RS.ex c en S).lp f = .ex c en S := id rfl
@[simp] theorem lp_no : (RS.no).lp f = .no := id rfl
end
def kTg (b : En → Sto → RS) (f : En → Sto → RS) (S : Sto) (o : Option En) : RS := match o with
  | some en => (b en S).lp f
  | none => .no
@[simp] theorem kTg_ {b f : En → Sto → RS} {S : Sto} {en : En} : kTg b f S (some en) = (b en S).lp f := id rfl
theorem for_nil {tg : Tg} {w : Wt} {b : En → Sto → RS} {en : En} {S : Sto} (h : wtOk w S = true) : forL tg w b [] en S = .nx en S := by
  unfold forL
  rw [if_pos h]
theorem for_cons {tg : Tg} {w : Wt} {b : En → Sto → RS} {x : PV} {r : List PV} {en : En} {S : Sto} (h : wtOk w S = true) : forL tg w b (x :: r) en S = kTg b (forL tg w b r) S (tgV tg x en) := by
  rw [forL]
  rw [if_pos h]
  cases tgV tg x en with
  | none => rfl
  | some e => dsimp only [kTg, RS.lp] <;> cases b e S <;> rfl
@[simp] theorem wt_nil {S : Sto} : wtOk [] S = true := id rfl
@[simp] theorem for_nil0 {tg : Tg} {b : En → Sto → RS} {en : En} {S : Sto} : forL tg [] b [] en S = .nx en S := for_nil rfl
theorem for_cons0 {tg : Tg} {b : En → Sto → RS} {x : PV} {r : List PV} {en : En} {S : Sto} : forL tg [] b (x :: r) en S = kTg b (forL tg [] b r) S (tgV tg x en) := for_cons rfl
/-- a loop by what holds ahead of each turn -/
theorem for_inv {tg : Tg} {w : Wt} {b : En → Sto → RS} (I : List PV → En → Sto → Prop) {its : List PV} {en : En} {S : Sto}
    (hw : ∀ r en S, I r en S → wtOk w S = true)
    (hs : ∀ x r en S, I (x :: r) en S → ∃ en1 en2 S2, tgV tg x en = some en1 ∧ (b en1 S = .nx en2 S2 ∨ b en1 S = .ct en2 S2) ∧ I r en2 S2)
    (h0 : I its en S) : ∃ en' S', forL tg w b its en S = .nx en' S' ∧ I [] en' S' := by
  induction its generalizing en S with
  | nil => exact ⟨en, S, for_nil (hw _ _ _ h0), h0⟩
  | cons x r ih =>
    obtain ⟨en1, en2, S2, ht, hb, hi⟩ := hs _ _ _ _ h0
    obtain ⟨e', S', e, q⟩ := ih hi
    refine ⟨e', S', ?_, q⟩
    rw [for_cons (hw _ _ _ h0), ht, kTg_]
    rcases hb with hb | hb <;> (rw [hb]; exact e)
/-- a loop that may end ahead of its end -/
theorem for_post {tg : Tg} {w : Wt} {b : En → Sto → RS} (I : List PV → En → Sto → Prop) (Q : RS → Prop) {its : List PV} {en : En} {S : Sto}
    (hw : ∀ r en S, I r en S → wtOk w S = true)
    (hs : ∀ x r en S, I (x :: r) en S → ∃ en1, tgV tg x en = some en1 ∧ ((∃ en2 S2, (b en1 S = .nx en2 S2 ∨ b en1 S = .ct en2 S2) ∧ I r en2 S2) ∨ (∃ v S2, b en1 S = .rt v S2 ∧ Q (.rt v S2)) ∨ ∃ c en2 S2, b en1 S = .ex c en2 S2 ∧ Q (.ex c en2 S2)))
    (hd : ∀ en S, I [] en S → Q (.nx en S)) (h0 : I its en S) : Q (forL tg w b its en S) := by
  induction its generalizing en S with
  | nil => rw [for_nil (hw _ _ _ h0)]; exact hd _ _ h0
  | cons x r ih =>
    obtain ⟨en1, ht, h⟩ := hs _ _ _ _ h0
    rw [for_cons (hw _ _ _ h0), ht, kTg_]
    rcases h with ⟨en2, S2, hb, hi⟩ | ⟨v, S2, hb, q⟩ | ⟨c, en2, S2, hb, q⟩
    · rcases hb with hb | hb <;> (rw [hb]; exact ih hi)
    · rw [hb]; exact q
    · rw [hb]; exact q
/-- while: a measure -/
theorem while_post {t : En → Sto → R Bool} {b : En → Sto → RS} (I : Nat → En → Sto → Prop) (Q : RS → Prop)
    (hs : ∀ k en S, I k en S → ∃ c S1, t en S = .ok c S1 ∧ (c = false → Q (.nx en S1)) ∧ (c = true → (∃ k' en2 S2, k' < k ∧ (b en S1 = .nx en2 S2 ∨ b en S1 = .ct en2 S2) ∧ I k' en2 S2) ∨ (∃ v S2, b en S1 = .rt v S2 ∧ Q (.rt v S2)) ∨ ∃ c' en2 S2, b en S1 = .ex c' en2 S2 ∧ Q (.ex c' en2 S2))) :
    ∀ (n k : Nat) (en : En) (S : Sto), I k en S → k < n → Q (whileL t b n en S)
  | 0, k, en, S, _, h => absurd h (Nat.not_lt_zero _)
  | n + 1, k, en, S, hi, h => by
    obtain ⟨c, S1, ht, h0, h1⟩ := hs k en S hi
    rw [whileL, ht, st_ok]
    cases c with
    | false => exact h0 rfl
    | true =>
      rw [if_pos rfl]
      rcases h1 rfl with ⟨k', en2, S2, hk, hb, hi2⟩ | ⟨v, S2, hb, q⟩ | ⟨c', en2, S2, hb, q⟩
      · rcases hb with hb | hb <;> (rw [hb]; exact while_post I Q hs n k' en2 S2 hi2 (by omega))
      · rw [hb]; exact q
      · rw [hb]; exact q
/-! comprehensions -/
def kE (f : List P → Sto → R Unit) (D : Nat) (x : PV) (S : Sto) : R Unit := match x with
  | .p y => (match S[D]? with
    | some (.lst acc) => if acc.length < 1000000 then f acc (S.set D (.lst (acc ++ [y]))) else .no
    | _ => .no)
  | _ => .no
theorem comp_nil {el : En → Sto → R PV} {tst : En → Sto → R Bool} {i D : Nat} {w : Wt} {en : En} {S : Sto} (h : wtOk w S = true) : compL el tst i w D [] en S = .ok () S := by
  unfold compL
  rw [if_pos h]
theorem comp_in {el : En → Sto → R PV} {tst : En → Sto → R Bool} {i D : Nat} {w : Wt} {x : PV} {r : List PV} {en : En} {S S1 S2 : Sto} {y : P} {acc : List P} (h : wtOk w S = true)
    (ht : tst (en.set i (some x)) S = .ok true S1) (he : el (en.set i (some x)) S1 = .ok (.p y) S2) (hD : S2[D]? = some (.lst acc)) (hl : acc.length < 1000000) :
    compL el tst i w D (x :: r) en S = compL el tst i w D r en (S2.set D (.lst (acc ++ [y]))) := by
  rw [compL, if_pos h, ht]
  dsimp only
  rw [he]
  dsimp only
  rw [hD]
  dsimp only
  rw [if_pos hl]
theorem comp_out {el : En → Sto → R PV} {tst : En → Sto → R Bool} {i D : Nat} {w : Wt} {x : PV} {r : List PV} {en : En} {S S1 : Sto} (h : wtOk w S = true)
    (ht : tst (en.set i (some x)) S = .ok false S1) : compL el tst i w D (x :: r) en S = compL el tst i w D r en S1 := by
  rw [compL, if_pos h, ht]
theorem pd_lst : ∀ {xs : List P}, (∀ x ∈ xs, pdB x x = true) → (xs.zip xs).all (fun q => pdB q.1 q.2) = true
  | [], _ => rfl
  | x :: xs, h => by
    simp only [List.zip_cons_cons, List.all_cons, Bool.and_eq_true]
    exact ⟨h x List.mem_cons_self, pd_lst fun y hy => h y (List.mem_cons_of_mem _ hy)⟩
/-- what stands where it stood -/
def wtP (w : Wt) : Prop := ∀ q ∈ w, ∀ x ∈ q.2, pdB x x = true
theorem wt_ok : ∀ {w : Wt} {S : Sto}, wtP w → (∀ q ∈ w, S[q.1]? = some (.lst q.2)) → wtOk w S = true
  | [], _, _, _ => rfl
  | (i, xs) :: r, S, hp, h => by
    have h1 := h (i, xs) List.mem_cons_self
    unfold wtOk
    rw [h1]
    dsimp only
    rw [pd_lst (hp (i, xs) List.mem_cons_self), wt_ok (fun q hq => hp q (List.mem_cons_of_mem _ hq)) fun q hq => h q (List.mem_cons_of_mem _ hq)]
    simp
/-- a comprehension over what changes nothing: S0 the store at its start -/
theorem compL_ok {el : En → Sto → R PV} {tst : En → Sto → R Bool} {i : Nat} {w : Wt} {α : Type} {S0 : Sto} {en : En} (inj : α → PV) (t : α → Bool) (f : α → P) (hp : wtP w) (hw : ∀ q ∈ w, S0[q.1]? = some (.lst q.2))
    : ∀ (xs : List α) (acc : List P), (∀ x ∈ xs, ∀ acc : List P, tst (en.set i (some (inj x))) (S0 ++ [.lst acc]) = .ok (t x) (S0 ++ [.lst acc]) ∧ (t x = true → el (en.set i (some (inj x))) (S0 ++ [.lst acc]) = .ok (.p (f x)) (S0 ++ [.lst acc]))) →
      acc.length + xs.length ≤ 1000000 → compL el tst i w S0.length (xs.map inj) en (S0 ++ [.lst acc]) = .ok () (S0 ++ [.lst (acc ++ (xs.filter t).map f)])
  | [], acc, _, _ => by
    rw [List.map_nil, comp_nil (wt_ok hp fun q hq => by rw [List.getElem?_append_left (getE_lt (hw q hq))]; exact hw q hq)]
    simp
  | x :: xs, acc, h, hl => by
    have wk : wtOk w (S0 ++ [.lst acc]) = true := wt_ok hp fun q hq => by rw [List.getElem?_append_left (getE_lt (hw q hq))]; exact hw q hq
    obtain ⟨h1, h2⟩ := h x List.mem_cons_self acc
    rw [List.map_cons]
    have hl2 : acc.length + (xs.length + 1) ≤ 1000000 := hl
    cases q : t x with
    | false =>
      rw [q] at h1
      rw [comp_out wk h1, compL_ok inj t f hp hw xs acc (fun y hy => h y (List.mem_cons_of_mem _ hy)) (by omega), List.filter_cons, q]
      rfl
    | true =>
      rw [q] at h1
      have e2 : (S0 ++ [Cell.lst acc]).set S0.length (.lst (acc ++ [f x])) = S0 ++ [.lst (acc ++ [f x])] := by simp
      rw [comp_in wk h1 (h2 q) (acc := acc) (by simp) (by omega), e2, compL_ok inj t f hp hw xs (acc ++ [f x]) (fun y hy => h y (List.mem_cons_of_mem _ hy)) (by rw [List.length_append]; simp; omega), List.filter_cons, q]
      simp
/-! a text's signs -/
def chs (s : Str) : List PV := s.cps.toList.map fun c => .p (.str ⟨#[c]⟩)
section
variable {S : Sto} {s : Str} {xs : List P} {l : Nat}
@[simp] theorem val_s : valI (.p (.str s)) S = .ok (chs s, []) S := id rfl
@[simp] theorem val_t : valI (.p (.tuple xs)) S = .ok (xs.map .p, []) S := id rfl
@[simp] theorem val_l : valI (.p (.list xs)) S = .ok (xs.map .p, []) S := id rfl
def valC (c : Option Cell) (l : Nat) (S : Sto) : R Its' := match c with
  | some (.lst xs) => .ok (xs.map .p, [(l, xs)]) S
  | _ => .no
@[simp] theorem val_loc : valI (.loc l) S = valC S[l]? l S := id rfl
@[simp] theorem valC_ : valC (some (.lst xs)) l S = .ok (xs.map .p, [(l, xs)]) S := id rfl
@[simp] theorem rng_ {a b : Int} (h : -4611686018427387904 ≤ a ∧ a < 4611686018427387904 ∧ -4611686018427387904 ≤ b ∧ b < 4611686018427387904) : rngI a b S = .ok ((List.range (b - a).toNat).map fun (k : Nat) => .p (.int (a + k)), []) S := if_pos h
def zipC (c d : Option Cell) (l k : Nat) (S : Sto) : R Its' := match c, d with
  | some (.lst xs), some (.lst ys) => if xs.length = ys.length then .ok ((xs.zip ys).map fun q => .p (.tuple [q.1, q.2]), [(l, xs), (k, ys)]) S else .no
  | _, _ => .no
@[simp] theorem zip_loc {k : Nat} : zipI (.loc l) (.loc k) S = zipC S[l]? S[k]? l k S := id rfl
@[simp] theorem zipC_ {ys : List P} {k : Nat} (h : xs.length = ys.length) : zipC (some (.lst xs)) (some (.lst ys)) l k S = .ok ((xs.zip ys).map fun q => .p (.tuple [q.1, q.2]), [(l, xs), (k, ys)]) S := if_pos h
def rvlC (c : Option Cell) (l : Nat) (S : Sto) : R Its' := match c with
  | some (.lst xs) => .ok (xs.reverse.map .p, [(l, xs)]) S
  | _ => .no
@[simp] theorem rvl_loc : revI (.loc l) S = rvlC S[l]? l S := id rfl
@[simp] theorem rvlC_ : rvlC (some (.lst xs)) l S = .ok (xs.reverse.map .p, [(l, xs)]) S := id rfl
@[simp] theorem rvl_t : revI (.p (.tuple xs)) S = .ok (xs.reverse.map .p, []) S := id rfl
end
@[simp] theorem len_of {s : String} : (Str.ofString s).length = s.length := by
  show (Str.ofString s).cps.size = _
  rw [Str.ofString_eq_toList]
  simp
  first | rfl | exact String.length_toList | exact (String.length_toList).symm
theorem cps_of {s : String} : (Str.ofString s).cps.toList = s.toList.map Char.toNat := by rw [Str.ofString_eq_toList]
theorem pd_e : ∀ t : Th, pdB t.e t.e = true
  | .var n => by simp [Th.e, pdB, pdBs]
  | .nm n => by simp [Th.e, pdB, pdBs]
  | .n0 w => by simp [Th.e, pdB, pdBs]
  | .n1 w a => by simp [Th.e, pdB, pdBs, pd_e a]
  | .n2 w a b => by simp [Th.e, pdB, pdBs, pd_e a, pd_e b]
  | .n3 w a b c => by simp [Th.e, pdB, pdBs, pd_e a, pd_e b, pd_e c]
  | .rc a b c d => by simp [Th.e, pdB, pdBs, pd_e a, pd_e b, pd_e c, pd_e d]
section
variable {k k' : Key} {v x : P} {r : List (Key × P)} {ks : List Str} {a : Str} {vs : List PV} {acc : List (Key × P)}
@[simp] theorem luK_nil : luK [] k = none := id rfl
@[simp] theorem luK_cons : luK ((k', v) :: r) k = if k' = k then some v else luK r k := by
  unfold luK
  rw [List.find?_cons]
  by_cases h : k' = k
  · simp [h]
  · simp [h]
@[simp] theorem dctV_nil : dctV [] [] acc = some acc := id rfl
@[simp] theorem dctV_cons : dctV (a :: ks) (.p x :: vs) acc = dctV ks vs (puK acc (.inr a) x) := id rfl
@[simp] theorem puK_nil : puK [] k v = [(k, v)] := id rfl
end
def Sms.tk : Nat → Sms → Sms
  | 0, _ => .nil
  | _ + 1, .nil => .nil
  | n + 1, .cons s r => .cons s (r.tk n)
def Sms.dr : Nat → Sms → Sms
  | 0, m => m
  | _ + 1, .nil => .nil
  | n + 1, .cons _ r => r.dr n
theorem exss_split {cl : Cl} : ∀ (k : Nat) (m : Sms) (en : En) (S : Sto), exss cl m en S = (exss cl (m.tk k) en S).seq (exss cl (m.dr k))
  | 0, m, en, S => by simp [Sms.tk, Sms.dr]
  | k + 1, .nil, en, S => by simp [Sms.tk, Sms.dr]
  | k + 1, .cons s r, en, S => by
    simp only [Sms.tk, Sms.dr, exss_cons]
    cases exs cl s en S with
    | nx e S => exact exss_split k r e S
    | _ => rfl
/-! comprehensions over few items -/
def R.nb {α : Type} (r : R α) (f : α → Sto → R Unit) : R Unit := match r with
  | .ok a S => f a S
  | _ => .no
section
variable (el : En → Sto → R PV) (tst : En → Sto → R Bool) (i D : Nat) (r : List PV) (en : En)
def cA (c : Option Cell) (y : P) (S : Sto) : R Unit := match c with
  | some (.lst acc) => if acc.length < 1000000 then compL el tst i [] D r en (S.set D (.lst (acc ++ [y]))) else .no
  | _ => .no
def kE2 (x : PV) (S : Sto) : R Unit := match x with
  | .p y => cA el tst i D r en S[D]? y S
  | _ => .no
def kT (x : PV) (b : Bool) (S : Sto) : R Unit := match b with
  | true => (el (en.set i (some x)) S).nb (kE2 el tst i D r en)
  | false => compL el tst i [] D r en S
end
section
variable {el : En → Sto → R PV} {tst : En → Sto → R Bool} {i D : Nat} {x : PV} {r : List PV} {en : En} {S : Sto} {y : P} {acc : List P} {u : Unit}
@[simp] theorem nb_ok {α : Type} {a : α} {f : α → Sto → R Unit} : (R.ok a S).nb f = f a S := id rfl
@[simp] theorem cA_ (h : acc.length < 1000000) : cA el tst i D r en (some (.lst acc)) y S = compL el tst i [] D r en (S.set D (.lst (acc ++ [y]))) := if_pos h
@[simp] theorem kE2_ : kE2 el tst i D r en (.p y) S = cA el tst i D r en S[D]? y S := id rfl
@[simp] theorem kT_t : kT el tst i D r en x true S = (el (en.set i (some x)) S).nb (kE2 el tst i D r en) := id rfl
@[simp] theorem kT_f : kT el tst i D r en x false S = compL el tst i [] D r en S := id rfl
@[simp] theorem compL_nil : compL el tst i [] D [] en S = .ok () S := comp_nil rfl
@[simp] theorem compL_cons : compL el tst i [] D (x :: r) en S = (tst (en.set i (some x)) S).nb (kT el tst i D r en x) := by
  rw [compL, if_pos wt_nil]
  cases tst (en.set i (some x)) S with
  | ok b S1 =>
    cases b with
    | false => rfl
    | true =>
      dsimp only [R.nb, kT]
      cases el (en.set i (some x)) S1 with
      | ok v S2 =>
        cases v with
        | p y =>
          dsimp only [kE2]
          cases S2[D]? with
          | none => rfl
          | some c => cases c <;> rfl
        | _ => rfl
      | _ => rfl
  | _ => rfl
@[simp] theorem kCmpD_ : kCmpD D u S = .ok (.loc D) S := id rfl
end
section
variable {cl : Cl} {i D : Nat} {w : Wt} {x : PV} {r : List PV} {en : En} {S : Sto} {tst : Oe} {e : Ex} {its : List PV}
@[simp] theorem kComp_ {q : Its'} : kComp cl en i tst e q S = (compL (ev cl e) (evC cl tst) i q.2 S.length q.1 en (S ++ [.lst []])).bind (kCmpD S.length) := id rfl
end
@[simp] theorem tgV_2 {i j : Nat} {x y : P} {en : En} : tgV (.tp [i, j]) (.p (.tuple [x, y])) en = some ((en.set i (some (.p x))).set j (some (.p y))) := id rfl
def wtC (c : Option Cell) (xs : List P) : Bool := match c with
  | some (.lst ys) => decide (ys.length = xs.length) && (ys.zip xs).all (fun q => pdB q.1 q.2)
  | _ => false
@[simp] theorem wt_cons {i : Nat} {xs : List P} {r : Wt} {S : Sto} : wtOk ((i, xs) :: r) S = (wtC S[i]? xs && wtOk r S) := id rfl
@[simp] theorem wtC_ {xs : List P} (h : ∀ x ∈ xs, pdB x x = true) : wtC (some (.lst xs)) xs = true := by
  unfold wtC
  dsimp only
  rw [pd_lst h]
  simp
@[simp] theorem pd_e' {t : Th} : pdB t.e t.e = true := pd_e t
@[simp] theorem pd_i {i : Int} : pdB (.int i) (.int i) = true := by simp [pdB]
@[simp] theorem pd_s {i : Str} : pdB (.str i) (.str i) = true := by simp [pdB]
end Kp

set_option Elab.async false
set_option linter.all false
set_option maxRecDepth 100000
set_option maxHeartbeats 8000000
set_option autoImplicit false
/-! S1: what the small defs do. -/
namespace Kp
open PySem PySem.Spec PyProof.Rows L2
abbrev Cf := List PV → Sto → R PV
def SKids (c : Cf) : Prop := ∀ t S, c [.p (Th.e t)] S = .ok (.loc S.length) (S ++ [.lst ((Th.kids t).map Th.e)])
def SBinds (c : Cf) : Prop := ∀ t S, c [.p (Th.e t)] S = .ok (.loc S.length) (S ++ [.lst ((Th.binds t).map fun (n : Nat) => .int (n : Int))])
def SNext (c : Cf) : Prop := ∀ (S : Sto) (i : Nat) (a b : Int), S[i]? = some (.lst [.int a, .int b]) → c [.loc i] S = .ok (.p (.int (a * 48271 % 2147483647 / 7))) (S.set i (.lst [.int (a * 48271 % 2147483647), .int (b - 1)]))
section
variable {cl : Cl} {S : Sto}
theorem kids_ok : SKids (runD cl 1 1 m_kids_of) := by
  intro t S
  unfold m_kids_of
  cases t with
  | n1 w a => cases w <;> simp [runD]
  | n0 w => cases w <;> simp [runD]
  | n2 w a b => cases w <;> simp [runD]
  | n3 w a b c => cases w <;> simp [runD]
  | _ => simp [runD]
theorem binds_ok {k : Nat} (h0 : SKids (cl k)) : SBinds (runD cl 1 1 (m_binds_of k)) := by
  intro t S
  unfold m_binds_of
  unfold SKids at h0
  cases t with
  | n1 w a => cases w <;> simp [runD, h0]
  | n0 w => cases w <;> simp [runD, h0]
  | n2 w a b => cases w <;> simp [runD, h0]
  | n3 w a b c => cases w <;> simp [runD, h0]
  | _ => simp [runD, h0]
theorem cell_ok {ns : List Int} {k : Nat} : runD cl 2 2 m_l_cell_at [.p (.list (ns.map PyData.int)), .p (.int k)] S = .ok (.p (.int (ns[k]?.getD 0))) S := by
  unfold m_l_cell_at
  by_cases h : k < ns.length
  · simp [runD, h, ix_n]
  · simp [runD, h]
theorem next_ok : SNext (runD cl 1 1 m_l_next) := by
  intro S i a b h
  unfold m_l_next
  simp [runD, h, has_of h]
theorem state_ok {c m : Int} (h : 0 ≤ m) : runD cl 2 2 m_l_state [.p (.int c), .p (.int m)] S = .ok (.loc S.length) (S ++ [.lst [.int (1 + c % 2147483646), .int (c / 3 % (m + 1))]]) := by
  unfold m_l_state
  have h2 : 0 < m + 1 := by omega
  simp [runD, h2]
/-- the shapes -/
def words : List (Str × Str) := [("nat", ""), ("none", ""), ("zero", ""), ("all", "kk"), ("some", "kk"), ("same", "ktt"), ("fun", "kt"), ("app", "tt"), ("next", "t"), ("rec", "kttt"), ("like", "kt"), ("carry", "ktt"), ("never", "kt"), ("pair", "ktt"), ("first", "t"), ("second", "t"), ("var", "n"), ("name", "w")]
def SShape (c : Cf) : Prop := ∀ S, ∀ q ∈ words, c [.p (.str q.1)] S = .ok (.p (.str q.2)) S
theorem shp1 : dctV ["nat", "none", "zero", "all", "some", "same", "fun", "app"] [.p (.str ""), .p (.str ""), .p (.str ""), .p (.str "kk"), .p (.str "kk"), .p (.str "ktt"), .p (.str "kt"), .p (.str "tt")] [] =
    some [(.inr "nat", .str ""), (.inr "none", .str ""), (.inr "zero", .str ""), (.inr "all", .str "kk"), (.inr "some", .str "kk"), (.inr "same", .str "ktt"), (.inr "fun", .str "kt"), (.inr "app", .str "tt")] := by kernel_rfl
theorem shp2 : dctV ["next", "rec", "like", "carry", "never", "pair", "first"] [.p (.str "t"), .p (.str "kttt"), .p (.str "kt"), .p (.str "ktt"), .p (.str "kt"), .p (.str "ktt"), .p (.str "t")] [] =
    some [(.inr "next", .str "t"), (.inr "rec", .str "kttt"), (.inr "like", .str "kt"), (.inr "carry", .str "ktt"), (.inr "never", .str "kt"), (.inr "pair", .str "ktt"), (.inr "first", .str "t")] := by kernel_rfl
theorem shp3 : dctV ["second", "var", "name"] [.p (.str "t"), .p (.str "n"), .p (.str "w")] [] = some [(.inr "second", .str "t"), (.inr "var", .str "n"), (.inr "name", .str "w")] := by kernel_rfl
theorem shape_ok : SShape (runD cl 1 3 m_l_shape) := by
  intro S q hq
  unfold m_l_shape
  unfold words at hq
  simp only [List.mem_cons, List.not_mem_nil, or_false] at hq
  rcases hq with rfl | rfl | rfl | rfl | rfl | rfl | rfl | rfl | rfl | rfl | rfl | rfl | rfl | rfl | rfl | rfl | rfl | rfl <;> simp [runD, shp1, shp2, shp3, -dctV_cons]
end
end Kp

set_option Elab.async false
set_option linter.all false
set_option maxRecDepth 100000
set_option maxHeartbeats 8000000
set_option autoImplicit false
/-! S2: things grown. -/
namespace Kp
open PySem PySem.Spec PyProof.Rows L2
/-! names -/
def nmW (n : Int) : Str := cutS "abcdefghijklmnopqrstuvwxyzabcdefghijkl" (some (n % 26)) (some (n % 26 + 1 + n / 26 % 12))
def nmOf (n : Int) : Str := if n / 312 % 3 = 1 then cutS (cutS (nmW n) none (some 1) ++ revS (nmW n)) none (some 12) else if n / 312 % 3 = 2 then cutS ("o" ++ nmW n ++ nmW n) none (some 12) else nmW n
def SName (c : Cf) : Prop := ∀ S n, c [.p (.int n)] S = .ok (.p (.str (nmOf n))) S
theorem nmW_len {n : Int} : (nmW n).length ≤ 38 := by
  unfold nmW
  exact cutS_len (by rw [len_of]; decide +kernel)
theorem name_ok {cl : Cl} : SName (runD cl 1 3 m_l_name) := by
  intro S n
  unfold m_l_name
  have k0 : "abcdefghijklmnopqrstuvwxyzabcdefghijkl".length = 38 := by decide +kernel
  have k1 : "o".length = 1 := by decide +kernel
  have e0 : cutS (Str.ofString "abcdefghijklmnopqrstuvwxyzabcdefghijkl") (some (n % 26)) (some (n % 26 + 1 + n / 26 % 12)) = nmW n := rfl
  have l0 := nmW_len (n := n)
  have l1 : (nmW n).length ≤ 1000000 := by omega
  have l2 : (cutS (nmW n) none (some 1)).length + (nmW n).length ≤ 1000000 := by have := cutS_len (lo := none) (hi := some 1) l0; omega
  have l3 : 1 + (nmW n).length ≤ 1000000 := by omega
  have l4 : 1 + (nmW n).length + (nmW n).length ≤ 1000000 := by omega
  by_cases h1 : n / 312 % 3 = 1
  · simp only [nmOf, if_pos h1]
    simp [runD, k0, e0, h1, l1, l2]
  · by_cases h2 : n / 312 % 3 = 2
    · simp only [nmOf, if_neg h1, if_pos h2]
      simp [runD, k0, k1, e0, h2, l1, l3, l4]
    · simp only [nmOf, if_neg h1, if_neg h2]
      simp [runD, k0, e0, h1, h2, l1]
/-! things -/
/-- a thing of a sort (true: a term), of so much depth -/
def Th.ok (vp : Int → Prop) (np : Str → Prop) : Bool → Nat → Th → Prop
  | _, 0, _ => False
  | b, _ + 1, .var n => b = true ∧ vp n
  | b, _ + 1, .nm s => b = true ∧ np s
  | b, _ + 1, .n0 .zero => b = true
  | b, _ + 1, .n0 _ => b = false
  | b, d + 1, .n1 _ a => b = true ∧ a.ok vp np true d
  | b, d + 1, .n2 .all x y => b = false ∧ x.ok vp np false d ∧ y.ok vp np false d
  | b, d + 1, .n2 .some x y => b = false ∧ x.ok vp np false d ∧ y.ok vp np false d
  | b, d + 1, .n2 .app x y => b = true ∧ x.ok vp np true d ∧ y.ok vp np true d
  | b, d + 1, .n2 _ x y => b = true ∧ x.ok vp np false d ∧ y.ok vp np true d
  | b, d + 1, .n3 .same x y z => b = false ∧ x.ok vp np false d ∧ y.ok vp np true d ∧ z.ok vp np true d
  | b, d + 1, .n3 _ x y z => b = true ∧ x.ok vp np false d ∧ y.ok vp np true d ∧ z.ok vp np true d
  | b, d + 1, .rc x y z u => b = true ∧ x.ok vp np false d ∧ y.ok vp np true d ∧ z.ok vp np true d ∧ u.ok vp np true d
def sc (b : Bool) : Str := if b then "t" else "k"
/-- as it is grown -/
abbrev Th.gr (b : Bool) (d : Nat) (t : Th) : Prop := t.ok (fun n => 0 ≤ n ∧ n < 100) (fun s => ∃ n, s = nmOf n) b d
def oks (l : Nat) : List Bool → List Th → Prop
  | [], [] => True
  | b :: so, t :: ts => t.gr b l ∧ oks l so ts
  | _, _ => False
def SGrown (c : Cf) (l : Nat) : Prop := ∀ (b : Bool) (S : Sto) (i : Nat) (a n : Int), S[i]? = some (.lst [.int a, .int n]) → 0 ≤ a → ∃ (t : Th) (a' n' : Int), 0 ≤ a' ∧ t.gr b l ∧
  c [.loc i, .p (.str (sc b)), .p (.int l)] S = .ok (.p t.e) (S.set i (.lst [.int a', .int n']))
theorem set_same {S : Sto} {i : Nat} {c : Cell} (h : S[i]? = some c) : S.set i c = S := by
  apply List.ext_getElem?
  intro j
  by_cases e : i = j
  · subst e; rw [List.getElem?_set_self (getE_lt h), h]
  · rw [List.getElem?_set_ne e]
theorem grow_loop {cl : Cl} {g l i D : Nat} {want num word words : Option PV} (ih : SGrown (cl g) l) (hD : i ≠ D) : ∀ (so : List Bool) (kd : Option PV) (S : Sto) (parts : List P) (a n : Int),
    S[i]? = some (.lst [.int a, .int n]) → S[D]? = some (.lst parts) → parts.length + so.length ≤ 100 → 0 ≤ a →
    ∃ (ts : List Th) (a' n' : Int) (kd' : Option PV), 0 ≤ a' ∧ oks l so ts ∧
      forL (.nm 6) [] (exss cl (.cons (.ex (.mth .append (.v 5) (.cons (.call g (.cons (.v 0) (.cons (.v 6) (.cons (.bin .sub (.v 2) (.c (.int 1))) .nil)))) .nil))) .nil)) (so.map fun b => .p (.str (sc b)))
        [some (.loc i), want, some (.p (.int (((l + 1 : Nat) : Int)))), num, word, some (.loc D), kd, words] S =
      .nx [some (.loc i), want, some (.p (.int (((l + 1 : Nat) : Int)))), num, word, some (.loc D), kd', words] ((S.set i (.lst [.int a', .int n'])).set D (.lst (parts ++ ts.map Th.e)))
  | [], kd, S, parts, a, n, h1, h2, h3, h4 => by
    refine ⟨[], a, n, kd, h4, trivial, ?_⟩
    rw [set_same h1]
    simp [set_same h2]
  | b :: so, kd, S, parts, a, n, h1, h2, h3, h4 => by
    obtain ⟨t, a1, n1, p1, p2, p3⟩ := ih b S i a n h1 h4
    have q1 : (S.set i (.lst [.int a1, .int n1]))[D]? = some (.lst parts) := by rw [List.getElem?_set_ne hD]; exact h2
    have h3' : parts.length + (so.length + 1) ≤ 100 := h3
    have hl : parts.length < 1000000 := by omega
    obtain ⟨ts, a2, n2, kd', r1, r2, r3⟩ := grow_loop ih hD so (some (.p (.str (sc b)))) ((S.set i (.lst [.int a1, .int n1])).set D (.lst (parts ++ [t.e]))) (parts ++ [t.e]) a1 n1
      (by rw [List.getElem?_set_ne (Ne.symm hD)]; exact set_at (has_of h1)) (set_at (has_set (has_of h2))) (by simp; omega) p1
    refine ⟨t :: ts, a2, n2, kd', r1, ⟨p2, r2⟩, ?_⟩
    rw [List.map_cons, for_cons0]
    have e1 : (((l + 1 : Nat) : Int) - 1) = (l : Int) := by omega
    simp [h2, e1, p3, q1, hl]
    simp at r3
    rw [r3]
    congr 1
    rw [List.set_comm _ _ (Ne.symm hD), List.set_set, List.set_set]
/-- the words of a kind, of a term -/
def hdW : List (Str × List Bool × Bool) := [("nat", [], false), ("none", [], false), ("zero", [], true), ("all", [false, false], false), ("some", [false, false], false), ("same", [false, true, true], false), ("fun", [false, true], true), ("app", [true, true], true), ("next", [true], true), ("rec", [false, true, true, true], true), ("like", [false, true], true), ("carry", [false, true, true], true), ("never", [false, true], true), ("pair", [false, true, true], true), ("first", [true], true), ("second", [true], true)]
theorem oks0 {l : Nat} {ts : List Th} (h : oks l [] ts) : ts = [] := by
  cases ts with
  | nil => rfl
  | cons _ _ => exact h.elim
theorem oksS {l : Nat} {b : Bool} {so : List Bool} {ts : List Th} (h : oks l (b :: so) ts) : ∃ t r, ts = t :: r ∧ t.gr b l ∧ oks l so r := by
  cases ts with
  | nil => exact h.elim
  | cons t r => exact ⟨t, r, rfl, h.1, h.2⟩
theorem hd_mk {q : Str × List Bool × Bool} (hq : q ∈ hdW) {l : Nat} {ts : List Th} (h : oks l q.2.1 ts) : ∃ t : Th, t.gr q.2.2 (l + 1) ∧ t.e = .tuple (.str q.1 :: ts.map Th.e) := by
  unfold hdW at hq
  simp only [List.mem_cons, List.not_mem_nil, or_false] at hq
  rcases hq with rfl | rfl | rfl | rfl | rfl | rfl | rfl | rfl | rfl | rfl | rfl | rfl | rfl | rfl | rfl | rfl
  · cases oks0 h; exact ⟨.n0 .nat, rfl, rfl⟩
  · cases oks0 h; exact ⟨.n0 .none, rfl, rfl⟩
  · cases oks0 h; exact ⟨.n0 .zero, rfl, rfl⟩
  · obtain ⟨a, r, rfl, g1, h⟩ := oksS h; obtain ⟨b, r, rfl, g2, h⟩ := oksS h; cases oks0 h
    exact ⟨.n2 .all a b, ⟨rfl, g1, g2⟩, rfl⟩
  · obtain ⟨a, r, rfl, g1, h⟩ := oksS h; obtain ⟨b, r, rfl, g2, h⟩ := oksS h; cases oks0 h
    exact ⟨.n2 .some a b, ⟨rfl, g1, g2⟩, rfl⟩
  · obtain ⟨a, r, rfl, g1, h⟩ := oksS h; obtain ⟨b, r, rfl, g2, h⟩ := oksS h; obtain ⟨c, r, rfl, g3, h⟩ := oksS h; cases oks0 h
    exact ⟨.n3 .same a b c, ⟨rfl, g1, g2, g3⟩, rfl⟩
  · obtain ⟨a, r, rfl, g1, h⟩ := oksS h; obtain ⟨b, r, rfl, g2, h⟩ := oksS h; cases oks0 h
    exact ⟨.n2 .fun' a b, ⟨rfl, g1, g2⟩, rfl⟩
  · obtain ⟨a, r, rfl, g1, h⟩ := oksS h; obtain ⟨b, r, rfl, g2, h⟩ := oksS h; cases oks0 h
    exact ⟨.n2 .app a b, ⟨rfl, g1, g2⟩, rfl⟩
  · obtain ⟨a, r, rfl, g1, h⟩ := oksS h; cases oks0 h
    exact ⟨.n1 .next a, ⟨rfl, g1⟩, rfl⟩
  · obtain ⟨a, r, rfl, g1, h⟩ := oksS h; obtain ⟨b, r, rfl, g2, h⟩ := oksS h; obtain ⟨c, r, rfl, g3, h⟩ := oksS h; obtain ⟨d, r, rfl, g4, h⟩ := oksS h; cases oks0 h
    exact ⟨.rc a b c d, ⟨rfl, g1, g2, g3, g4⟩, rfl⟩
  · obtain ⟨a, r, rfl, g1, h⟩ := oksS h; obtain ⟨b, r, rfl, g2, h⟩ := oksS h; cases oks0 h
    exact ⟨.n2 .like a b, ⟨rfl, g1, g2⟩, rfl⟩
  · obtain ⟨a, r, rfl, g1, h⟩ := oksS h; obtain ⟨b, r, rfl, g2, h⟩ := oksS h; obtain ⟨c, r, rfl, g3, h⟩ := oksS h; cases oks0 h
    exact ⟨.n3 .carry a b c, ⟨rfl, g1, g2, g3⟩, rfl⟩
  · obtain ⟨a, r, rfl, g1, h⟩ := oksS h; obtain ⟨b, r, rfl, g2, h⟩ := oksS h; cases oks0 h
    exact ⟨.n2 .never a b, ⟨rfl, g1, g2⟩, rfl⟩
  · obtain ⟨a, r, rfl, g1, h⟩ := oksS h; obtain ⟨b, r, rfl, g2, h⟩ := oksS h; obtain ⟨c, r, rfl, g3, h⟩ := oksS h; cases oks0 h
    exact ⟨.n3 .pair a b c, ⟨rfl, g1, g2, g3⟩, rfl⟩
  · obtain ⟨a, r, rfl, g1, h⟩ := oksS h; cases oks0 h
    exact ⟨.n1 .first a, ⟨rfl, g1⟩, rfl⟩
  · obtain ⟨a, r, rfl, g1, h⟩ := oksS h; cases oks0 h
    exact ⟨.n1 .second a, ⟨rfl, g1⟩, rfl⟩
theorem hd_w {q : Str × List Bool × Bool} (hq : q ∈ hdW) : (∃ s, (q.1, s) ∈ words ∧ chs s = q.2.1.map fun b => .p (.str (sc b))) ∧ q.1 ≠ "var" ∧ q.1 ≠ "name" ∧ q.2.1.length ≤ 4 := by
  unfold hdW at hq
  simp only [List.mem_cons, List.not_mem_nil, or_false] at hq
  rcases hq with rfl | rfl | rfl | rfl | rfl | rfl | rfl | rfl | rfl | rfl | rfl | rfl | rfl | rfl | rfl | rfl
  · exact ⟨⟨"", by simp [words], by kernel_rfl⟩, by simp, by simp, by decide⟩
  · exact ⟨⟨"", by simp [words], by kernel_rfl⟩, by simp, by simp, by decide⟩
  · exact ⟨⟨"", by simp [words], by kernel_rfl⟩, by simp, by simp, by decide⟩
  · exact ⟨⟨"kk", by simp [words], by kernel_rfl⟩, by simp, by simp, by decide⟩
  · exact ⟨⟨"kk", by simp [words], by kernel_rfl⟩, by simp, by simp, by decide⟩
  · exact ⟨⟨"ktt", by simp [words], by kernel_rfl⟩, by simp, by simp, by decide⟩
  · exact ⟨⟨"kt", by simp [words], by kernel_rfl⟩, by simp, by simp, by decide⟩
  · exact ⟨⟨"tt", by simp [words], by kernel_rfl⟩, by simp, by simp, by decide⟩
  · exact ⟨⟨"t", by simp [words], by kernel_rfl⟩, by simp, by simp, by decide⟩
  · exact ⟨⟨"kttt", by simp [words], by kernel_rfl⟩, by simp, by simp, by decide⟩
  · exact ⟨⟨"kt", by simp [words], by kernel_rfl⟩, by simp, by simp, by decide⟩
  · exact ⟨⟨"ktt", by simp [words], by kernel_rfl⟩, by simp, by simp, by decide⟩
  · exact ⟨⟨"kt", by simp [words], by kernel_rfl⟩, by simp, by simp, by decide⟩
  · exact ⟨⟨"ktt", by simp [words], by kernel_rfl⟩, by simp, by simp, by decide⟩
  · exact ⟨⟨"t", by simp [words], by kernel_rfl⟩, by simp, by simp, by decide⟩
  · exact ⟨⟨"t", by simp [words], by kernel_rfl⟩, by simp, by simp, by decide⟩
section
variable {cl : Cl} {sh g nm nx l i : Nat} {want words' : Option PV} {b : Bool} {S : Sto} {a n num : Int}
def tlG (cl : Cl) (sh g nm nx l i : Nat) (want words' : Option PV) (num : Int) (w : Str) (S : Sto) : RS := exss cl ((m_l_grown sh g nm nx).dr 4) [some (.loc i), want, some (.p (.int (((l + 1 : Nat) : Int)))), some (.p (.int num)), some (.p (.str w)), none, none, words'] S
def GoodT (b : Bool) (l i : Nat) (S : Sto) (r : RS) : Prop := ∃ (t : Th) (a' n' : Int) (c : Sto), 0 ≤ a' ∧ t.gr b (l + 1) ∧ r = .rt (.p t.e) (S.set i (.lst [.int a', .int n']) ++ c)
theorem tl_hd (hsh : SShape (cl sh)) {q : Str × List Bool × Bool} (hq : q ∈ hdW) (ih : q.2.1 ≠ [] → SGrown (cl g) l) (h : S[i]? = some (.lst [.int a, .int n])) (h0 : 0 ≤ a) : GoodT q.2.2 l i S (tlG cl sh g nm nx l i want words' num q.1 S) := by
  obtain ⟨⟨s, hs, hc⟩, n1, n2, hl⟩ := hd_w hq
  have hsh' := fun S => hsh S _ hs
  unfold tlG m_l_grown
  simp only [Sms.dr]
  have hi := has_of h
  have ne : i ≠ S.length := by unfold Has at hi; omega
  have key : ∃ (ts : List Th) (a' n' : Int) (kd' : Option PV), 0 ≤ a' ∧ oks l q.2.1 ts ∧
      forL (.nm 6) [] (exss cl (.cons (.ex (.mth .append (.v 5) (.cons (.call g (.cons (.v 0) (.cons (.v 6) (.cons (.bin .sub (.v 2) (.c (.int 1))) .nil)))) .nil))) .nil)) (q.2.1.map fun b => .p (.str (sc b)))
        [some (.loc i), want, some (.p (.int (((l + 1 : Nat) : Int)))), some (.p (.int num)), some (.p (.str q.1)), some (.loc S.length), none, words'] (S ++ [Cell.lst [PyData.str q.1]]) =
      .nx [some (.loc i), want, some (.p (.int (((l + 1 : Nat) : Int)))), some (.p (.int num)), some (.p (.str q.1)), some (.loc S.length), kd', words'] ((List.set (S ++ [Cell.lst [PyData.str q.1]]) i (Cell.lst [PyData.int a', PyData.int n'])).set S.length (Cell.lst ([PyData.str q.1] ++ ts.map Th.e))) := by
    cases e : q.2.1 with
    | nil =>
      refine ⟨[], a, n, none, h0, trivial, ?_⟩
      rw [set_same (c := .lst [.int a, .int n]) (by rw [at_old hi]; exact h)]
      simp
    | cons x r =>
      rw [← e]
      exact grow_loop (ih (by rw [e]; exact List.cons_ne_nil _ _)) ne q.2.1 none _ [.str q.1] a n (by rw [at_old hi]; exact h) (by simp) (by simp; omega) h0
  obtain ⟨ts, a', n', kd', p1, p2, p3⟩ := key
  obtain ⟨t, g1, g2⟩ := hd_mk hq p2
  refine ⟨t, a', n', [.lst (.str q.1 :: ts.map Th.e)], p1, g1, ?_⟩
  simp [n1, n2, hsh', hc]
  simp at p3
  simp [p3, hi, g2]
theorem tl_var (h : S[i]? = some (.lst [.int a, .int n])) (h0 : 0 ≤ a) (hn : 0 ≤ num) : GoodT true l i S (tlG cl sh g nm nx l i want words' num "var" S) := by
  unfold tlG m_l_grown
  simp only [Sms.dr]
  have e := set_same h
  by_cases c : num / 16 % 9 = 0
  · refine ⟨.var (num / 144 % 100), a, n, [], h0, ⟨rfl, by omega, by omega⟩, ?_⟩
    simp [c, e, Th.e]
  · refine ⟨.var (num / 144 % 5), a, n, [], h0, ⟨rfl, by omega, by omega⟩, ?_⟩
    simp [c, e, Th.e]
theorem tl_name (hnm : SName (cl nm)) (h : S[i]? = some (.lst [.int a, .int n])) (h0 : 0 ≤ a) : GoodT true l i S (tlG cl sh g nm nx l i want words' num "name" S) := by
  unfold tlG m_l_grown
  simp only [Sms.dr]
  have e := set_same h
  unfold SName at hnm
  refine ⟨.nm (nmOf (num / 16)), a, n, [], h0, ⟨rfl, _, rfl⟩, ?_⟩
  simp [e, Th.e, hnm]
end
end Kp

set_option Elab.async false
set_option linter.all false
set_option maxRecDepth 100000
set_option maxHeartbeats 8000000
set_option autoImplicit false
/-! S3: a thing grown. -/
namespace Kp
open PySem PySem.Spec PyProof.Rows L2
section
variable {cl : Cl} {sh g nm nx l i : Nat} {want words' : Option PV} {b : Bool} {S : Sto} {a n num : Int}
def wK : List P := [.str "nat", .str "all", .str "same", .str "some", .str "nat", .str "all", .str "none", .str "same"]
def wT : List P := [.str "var", .str "app", .str "fun", .str "next", .str "var", .str "rec", .str "zero", .str "app", .str "like", .str "carry", .str "never", .str "pair", .str "first", .str "second", .str "name", .str "var"]
def wL : Bool → List P
  | false => [.str "nat", .str "none"]
  | true => [.str "var", .str "zero"]
theorem tl_k {w : P} (hsh : SShape (cl sh)) (hw : w ∈ wK) (ih : SGrown (cl g) l) (h : S[i]? = some (.lst [.int a, .int n])) (h0 : 0 ≤ a) : ∃ s, w = .str s ∧ GoodT false l i S (tlG cl sh g nm nx l i want words' num s S) := by
  unfold wK at hw
  simp only [List.mem_cons, List.not_mem_nil, or_false] at hw
  rcases hw with rfl | rfl | rfl | rfl | rfl | rfl | rfl | rfl
  · exact ⟨_, rfl, tl_hd hsh (q := ("nat", [], false)) (by simp [hdW]) (fun _ => ih) h h0⟩
  · exact ⟨_, rfl, tl_hd hsh (q := ("all", [false, false], false)) (by simp [hdW]) (fun _ => ih) h h0⟩
  · exact ⟨_, rfl, tl_hd hsh (q := ("same", [false, true, true], false)) (by simp [hdW]) (fun _ => ih) h h0⟩
  · exact ⟨_, rfl, tl_hd hsh (q := ("some", [false, false], false)) (by simp [hdW]) (fun _ => ih) h h0⟩
  · exact ⟨_, rfl, tl_hd hsh (q := ("nat", [], false)) (by simp [hdW]) (fun _ => ih) h h0⟩
  · exact ⟨_, rfl, tl_hd hsh (q := ("all", [false, false], false)) (by simp [hdW]) (fun _ => ih) h h0⟩
  · exact ⟨_, rfl, tl_hd hsh (q := ("none", [], false)) (by simp [hdW]) (fun _ => ih) h h0⟩
  · exact ⟨_, rfl, tl_hd hsh (q := ("same", [false, true, true], false)) (by simp [hdW]) (fun _ => ih) h h0⟩
theorem tl_t {w : P} (hsh : SShape (cl sh)) (hnm : SName (cl nm)) (hn : 0 ≤ num) (hw : w ∈ wT) (ih : SGrown (cl g) l) (h : S[i]? = some (.lst [.int a, .int n])) (h0 : 0 ≤ a) : ∃ s, w = .str s ∧ GoodT true l i S (tlG cl sh g nm nx l i want words' num s S) := by
  unfold wT at hw
  simp only [List.mem_cons, List.not_mem_nil, or_false] at hw
  rcases hw with rfl | rfl | rfl | rfl | rfl | rfl | rfl | rfl | rfl | rfl | rfl | rfl | rfl | rfl | rfl | rfl
  · exact ⟨_, rfl, tl_var h h0 hn⟩
  · exact ⟨_, rfl, tl_hd hsh (q := ("app", [true, true], true)) (by simp [hdW]) (fun _ => ih) h h0⟩
  · exact ⟨_, rfl, tl_hd hsh (q := ("fun", [false, true], true)) (by simp [hdW]) (fun _ => ih) h h0⟩
  · exact ⟨_, rfl, tl_hd hsh (q := ("next", [true], true)) (by simp [hdW]) (fun _ => ih) h h0⟩
  · exact ⟨_, rfl, tl_var h h0 hn⟩
  · exact ⟨_, rfl, tl_hd hsh (q := ("rec", [false, true, true, true], true)) (by simp [hdW]) (fun _ => ih) h h0⟩
  · exact ⟨_, rfl, tl_hd hsh (q := ("zero", [], true)) (by simp [hdW]) (fun _ => ih) h h0⟩
  · exact ⟨_, rfl, tl_hd hsh (q := ("app", [true, true], true)) (by simp [hdW]) (fun _ => ih) h h0⟩
  · exact ⟨_, rfl, tl_hd hsh (q := ("like", [false, true], true)) (by simp [hdW]) (fun _ => ih) h h0⟩
  · exact ⟨_, rfl, tl_hd hsh (q := ("carry", [false, true, true], true)) (by simp [hdW]) (fun _ => ih) h h0⟩
  · exact ⟨_, rfl, tl_hd hsh (q := ("never", [false, true], true)) (by simp [hdW]) (fun _ => ih) h h0⟩
  · exact ⟨_, rfl, tl_hd hsh (q := ("pair", [false, true, true], true)) (by simp [hdW]) (fun _ => ih) h h0⟩
  · exact ⟨_, rfl, tl_hd hsh (q := ("first", [true], true)) (by simp [hdW]) (fun _ => ih) h h0⟩
  · exact ⟨_, rfl, tl_hd hsh (q := ("second", [true], true)) (by simp [hdW]) (fun _ => ih) h h0⟩
  · exact ⟨_, rfl, tl_name hnm h h0⟩
  · exact ⟨_, rfl, tl_var h h0 hn⟩
theorem tl_l {w : P} (hsh : SShape (cl sh)) (hn : 0 ≤ num) (hw : w ∈ wL b) (h : S[i]? = some (.lst [.int a, .int n])) (h0 : 0 ≤ a) : ∃ s, w = .str s ∧ GoodT b l i S (tlG cl sh g nm nx l i want words' num s S) := by
  cases b <;> simp only [wL, List.mem_cons, List.not_mem_nil, or_false] at hw <;> rcases hw with rfl | rfl
  · exact ⟨_, rfl, tl_hd hsh (q := ("nat", [], false)) (by simp [hdW]) (fun e => absurd rfl e) h h0⟩
  · exact ⟨_, rfl, tl_hd hsh (q := ("none", [], false)) (by simp [hdW]) (fun e => absurd rfl e) h h0⟩
  · exact ⟨_, rfl, tl_var h h0 hn⟩
  · exact ⟨_, rfl, tl_hd hsh (q := ("zero", [], true)) (by simp [hdW]) (fun e => absurd rfl e) h h0⟩
def wOf (b leaf : Bool) : List P := match leaf, b with
  | true, b => wL b
  | false, false => wK
  | false, true => wT
theorem grow_head (hnx : SNext (cl nx)) (L : Int) (h : S[i]? = some (.lst [.int a, .int n])) (h0 : 0 ≤ a) : ∃ (w : P) (wd : Option PV) (c : Sto), w ∈ wOf b (decide (L ≤ 1) || decide (n - 1 < 0)) ∧
    exss cl ((m_l_grown sh g nm nx).tk 4) [some (.loc i), some (.p (.str (sc b))), some (.p (.int L)), none, none, none, none, none] S =
      .nx [some (.loc i), some (.p (.str (sc b))), some (.p (.int L)), some (.p (.int (a * 48271 % 2147483647 / 7))), some (.p w), none, none, wd] (S.set i (.lst [.int (a * 48271 % 2147483647), .int (n - 1)]) ++ c) := by
  have hi := has_of h
  have hx := hnx S i a n h
  unfold m_l_grown
  simp only [Sms.tk]
  generalize ha : a * 48271 % 2147483647 = a1 at *
  have p1 : 0 ≤ a1 / 7 := by omega
  cases b with
  | false =>
    by_cases c1 : L ≤ 1
    · obtain ⟨w, hw, e⟩ := ix_mem (xs := wL false) (k := a1 / 7 % 2) (by omega) (by simp [wL]; omega)
      refine ⟨w, some (.loc (S.length + 2)), [.lst [.str "nat", .str "all", .str "same", .str "some", .str "nat", .str "all", .str "none", .str "same"], .lst [.str "none", .str "zero"], .lst [.str "nat", .str "none"]], by simpa [c1, wOf] using hw, ?_⟩
      simp only [wL] at e
      simp [sc, hx, c1, hi, e]
    · by_cases c2 : n - 1 < 0
      · obtain ⟨w, hw, e⟩ := ix_mem (xs := wL false) (k := a1 / 7 % 2) (by omega) (by simp [wL]; omega)
        refine ⟨w, some (.loc (S.length + 2)), [.lst [.str "nat", .str "all", .str "same", .str "some", .str "nat", .str "all", .str "none", .str "same"], .lst [.str "none", .str "zero"], .lst [.str "nat", .str "none"]], by simpa [c1, c2, wOf] using hw, ?_⟩
        simp only [wL] at e
        simp [sc, hx, c1, c2, hi, e]
      · obtain ⟨w, hw, e⟩ := ix_mem (xs := wK) (k := a1 / 7 % 8) (by omega) (by simp [wK]; omega)
        refine ⟨w, some (.loc (S.length)), [.lst [.str "nat", .str "all", .str "same", .str "some", .str "nat", .str "all", .str "none", .str "same"]], by simpa [c1, c2, wOf] using hw, ?_⟩
        simp only [wK] at e
        simp [sc, hx, c1, c2, hi, e]
  | true =>
    by_cases c1 : L ≤ 1
    · obtain ⟨w, hw, e⟩ := ix_mem (xs := wL true) (k := a1 / 7 % 2) (by omega) (by simp [wL]; omega)
      refine ⟨w, some (.loc (S.length + 4)), [.lst [.str "var", .str "app", .str "fun", .str "next", .str "var", .str "rec", .str "zero", .str "app", .str "like", .str "carry", .str "never", .str "pair"], .lst [.str "first", .str "second", .str "name", .str "var"], .lst [.str "var", .str "app", .str "fun", .str "next", .str "var", .str "rec", .str "zero", .str "app", .str "like", .str "carry", .str "never", .str "pair", .str "first", .str "second", .str "name", .str "var"], .lst [.str "none", .str "zero"], .lst [.str "var", .str "zero"]], by simpa [c1, wOf] using hw, ?_⟩
      simp only [wL] at e
      simp [sc, hx, c1, hi, e]
    · by_cases c2 : n - 1 < 0
      · obtain ⟨w, hw, e⟩ := ix_mem (xs := wL true) (k := a1 / 7 % 2) (by omega) (by simp [wL]; omega)
        refine ⟨w, some (.loc (S.length + 4)), [.lst [.str "var", .str "app", .str "fun", .str "next", .str "var", .str "rec", .str "zero", .str "app", .str "like", .str "carry", .str "never", .str "pair"], .lst [.str "first", .str "second", .str "name", .str "var"], .lst [.str "var", .str "app", .str "fun", .str "next", .str "var", .str "rec", .str "zero", .str "app", .str "like", .str "carry", .str "never", .str "pair", .str "first", .str "second", .str "name", .str "var"], .lst [.str "none", .str "zero"], .lst [.str "var", .str "zero"]], by simpa [c1, c2, wOf] using hw, ?_⟩
        simp only [wL] at e
        simp [sc, hx, c1, c2, hi, e]
      · obtain ⟨w, hw, e⟩ := ix_mem (xs := wT) (k := a1 / 7 % 16) (by omega) (by simp [wT]; omega)
        refine ⟨w, some (.loc (S.length + 2)), [.lst [.str "var", .str "app", .str "fun", .str "next", .str "var", .str "rec", .str "zero", .str "app", .str "like", .str "carry", .str "never", .str "pair"], .lst [.str "first", .str "second", .str "name", .str "var"], .lst [.str "var", .str "app", .str "fun", .str "next", .str "var", .str "rec", .str "zero", .str "app", .str "like", .str "carry", .str "never", .str "pair", .str "first", .str "second", .str "name", .str "var"]], by simpa [c1, c2, wOf] using hw, ?_⟩
        simp only [wT] at e
        simp [sc, hx, c1, c2, hi, e]
theorem grown_ok (hsh : SShape (cl sh)) (hnm : SName (cl nm)) (hnx : SNext (cl nx)) (ih : l ≠ 0 → SGrown (cl g) l) : SGrown (runD cl 3 8 (m_l_grown sh g nm nx)) (l + 1) := by
  intro b S i a n h h0
  have hi := has_of h
  obtain ⟨w, wd, c, hw, e⟩ := grow_head (sh := sh) (g := g) (nm := nm) (b := b) hnx (((l + 1 : Nat) : Int)) h h0
  have p1 : 0 ≤ a * 48271 % 2147483647 / 7 := by omega
  have p2 : 0 ≤ a * 48271 % 2147483647 := by omega
  have h1 : (List.set S i (Cell.lst [.int (a * 48271 % 2147483647), .int (n - 1)]) ++ c)[i]? = some (.lst [.int (a * 48271 % 2147483647), .int (n - 1)]) := by
    rw [at_old (has_set hi), set_at hi]
  have hg : ∃ s, w = .str s ∧ GoodT b l i (List.set S i (Cell.lst [.int (a * 48271 % 2147483647), .int (n - 1)]) ++ c) (tlG cl sh g nm nx l i (some (.p (.str (sc b)))) wd (a * 48271 % 2147483647 / 7) s (List.set S i (Cell.lst [.int (a * 48271 % 2147483647), .int (n - 1)]) ++ c)) := by
    cases d : (decide ((((l + 1 : Nat) : Int)) ≤ 1) || decide (n - 1 < 0)) with
    | true =>
      rw [d] at hw
      exact tl_l hsh p1 hw h1 p2
    | false =>
      rw [d] at hw
      have l0 : l ≠ 0 := by
        intro z
        subst z
        simp at d
      cases b with
      | false => exact tl_k hsh hw (ih l0) h1 p2
      | true => exact tl_t hsh hnm p1 hw (ih l0) h1 p2
  obtain ⟨s, rfl, t, a', n', c', q1, q2, q3⟩ := hg
  refine ⟨t, a', n', q1, q2, ?_⟩
  refine Eq.trans (if_pos rfl) ?_
  show endV S.length (exss cl (m_l_grown sh g nm nx) [some (.loc i), some (.p (.str (sc b))), some (.p (.int (((l + 1 : Nat) : Int)))), none, none, none, none, none] S) = _
  rw [exss_split 4, e, seq_nx]
  have q4 : exss cl ((m_l_grown sh g nm nx).dr 4) [some (.loc i), some (.p (.str (sc b))), some (.p (.int (((l + 1 : Nat) : Int)))), some (.p (.int (a * 48271 % 2147483647 / 7))), some (.p (.str s)), none, none, wd] (List.set S i (Cell.lst [.int (a * 48271 % 2147483647), .int (n - 1)]) ++ c) = _ := q3
  rw [q4]
  simp [hi]
end
end Kp

set_option Elab.async false
set_option linter.all false
set_option maxRecDepth 100000
set_option maxHeartbeats 8000000
set_option autoImplicit false
/-! S4: the law's own reading of a thing. -/
namespace Kp
open PySem PySem.Spec PyProof.Rows L2
@[simp] theorem cs0 : (Str.ofString "").cps.toList = [] := by decide +kernel
@[simp] theorem cs1 : (Str.ofString "t").cps.toList = [116] := by decide +kernel
@[simp] theorem cs2 : (Str.ofString "n").cps.toList = [110] := by decide +kernel
@[simp] theorem cs3 : (Str.ofString "w").cps.toList = [119] := by decide +kernel
@[simp] theorem cs4 : (Str.ofString "kk").cps.toList = [107, 107] := by decide +kernel
@[simp] theorem cs5 : (Str.ofString "kt").cps.toList = [107, 116] := by decide +kernel
@[simp] theorem cs6 : (Str.ofString "tt").cps.toList = [116, 116] := by decide +kernel
@[simp] theorem cs7 : (Str.ofString "ktt").cps.toList = [107, 116, 116] := by decide +kernel
@[simp] theorem cs8 : (Str.ofString "kttt").cps.toList = [107, 116, 116, 116] := by decide +kernel
@[simp] theorem ls0 : "".length = 0 := by decide +kernel
@[simp] theorem ls1 : "t".length = 1 := by decide +kernel
@[simp] theorem ls2 : "n".length = 1 := by decide +kernel
@[simp] theorem ls3 : "w".length = 1 := by decide +kernel
@[simp] theorem ls4 : "kk".length = 2 := by decide +kernel
@[simp] theorem ls5 : "kt".length = 2 := by decide +kernel
@[simp] theorem ls6 : "tt".length = 2 := by decide +kernel
@[simp] theorem ls7 : "ktt".length = 3 := by decide +kernel
@[simp] theorem ls8 : "kttt".length = 4 := by decide +kernel
@[simp] theorem len_1 {c : Nat} : (⟨#[c]⟩ : Str).length = 1 := rfl
@[simp] theorem in_kt {c : Nat} : inS ⟨#[c]⟩ "kt" = (decide (c = 107) || decide (c = 116)) := by
  unfold inS
  rw [cs5]
  simp
theorem rg1 : List.range 1 = [0] := rfl
theorem rg2 : List.range 2 = [0, 1] := rfl
theorem rg3 : List.range 3 = [0, 1, 2] := rfl
theorem rg4 : List.range 4 = [0, 1, 2, 3] := rfl
def Th.sh : Th → Str
  | .var _ => "n" | .nm _ => "w" | .n0 _ => ""
  | .n1 _ _ => "t"
  | .n2 .all _ _ => "kk" | .n2 .some _ _ => "kk" | .n2 .app _ _ => "tt" | .n2 _ _ _ => "kt"
  | .n3 _ _ _ _ => "ktt"
  | .rc _ _ _ _ => "kttt"
section
variable {n : Int} {s : Str} {u0 : U0} {u1 : U1} {u2 : U2} {u3 : U3} {a b c d : Th}
@[simp] theorem sh_0 : (.var n : Th).sh = "n" := rfl
@[simp] theorem sh_1 : (.nm s : Th).sh = "w" := rfl
@[simp] theorem sh_2 : (.n0 u0 : Th).sh = "" := rfl
@[simp] theorem sh_3 : (.n1 u1 a : Th).sh = "t" := rfl
@[simp] theorem sh_4 : (.n2 .all a b : Th).sh = "kk" := rfl
@[simp] theorem sh_5 : (.n2 .some a b : Th).sh = "kk" := rfl
@[simp] theorem sh_6 : (.n2 .fun' a b : Th).sh = "kt" := rfl
@[simp] theorem sh_7 : (.n2 .app a b : Th).sh = "tt" := rfl
@[simp] theorem sh_8 : (.n2 .like a b : Th).sh = "kt" := rfl
@[simp] theorem sh_9 : (.n2 .never a b : Th).sh = "kt" := rfl
@[simp] theorem sh_10 : (.n3 u3 a b c : Th).sh = "ktt" := rfl
@[simp] theorem sh_11 : (.rc a b c d : Th).sh = "kttt" := rfl
end
theorem shape_t {c : Cf} (h : SShape c) (t : Th) (S : Sto) : c [.p (.str t.w)] S = .ok (.p (.str t.sh)) S := by
  have h' := h S (t.w, t.sh)
  apply h'
  cases t with
  | n0 w => cases w <;> simp [words]
  | n1 w _ => cases w <;> simp [words]
  | n2 w _ _ => cases w <;> simp [words]
  | n3 w _ _ _ => cases w <;> simp [words]
  | _ => simp [words]
section
variable {cl : Cl} {k : Nat}
theorem lkids_ok (h : SShape (cl k)) : SKids (runD cl 1 3 (m_l_kids k)) := by
  intro t S
  have hs := fun S => shape_t h t S
  unfold m_l_kids
  cases t with
  | n0 w => cases w <;> (simp at hs; simp [runD, hs, rg1, rg2, rg3, rg4])
  | n1 w a => cases w <;> (simp at hs; simp [runD, hs, rg1, rg2, rg3, rg4])
  | n2 w a b => cases w <;> (simp at hs; simp [runD, hs, rg1, rg2, rg3, rg4])
  | n3 w a b c => cases w <;> (simp at hs; simp [runD, hs, rg1, rg2, rg3, rg4])
  | _ => simp at hs; simp [runD, hs, rg1, rg2, rg3, rg4]
theorem lbinds_ok (h0 : SKids (cl k)) : SBinds (runD cl 1 1 (m_l_binds k)) := by
  intro t S
  unfold m_l_binds
  unfold SKids at h0
  cases t with
  | n1 w a => cases w <;> simp [runD, h0]
  | n0 w => cases w <;> simp [runD, h0]
  | n2 w a b => cases w <;> simp [runD, h0]
  | n3 w a b c => cases w <;> simp [runD, h0]
  | _ => simp [runD, h0]
end
end Kp

set_option Elab.async false
set_option linter.all false
set_option maxRecDepth 100000
set_option maxHeartbeats 8000000
set_option autoImplicit false
/-! S5: what is free in a thing. -/
namespace Kp
open PySem PySem.Spec PyProof.Rows L2
@[simp] def Th.dp : Th → Nat
  | .var _ => 1 | .nm _ => 1 | .n0 _ => 1
  | .n1 _ a => a.dp + 1
  | .n2 _ a b => max a.dp b.dp + 1
  | .n3 _ a b c => max (max a.dp b.dp) c.dp + 1
  | .rc a b c d => max (max a.dp b.dp) (max c.dp d.dp) + 1
/-- the leaves' number -/
@[simp] def Th.nv : Th → Nat
  | .var _ => 1 | .nm _ => 1 | .n0 _ => 1
  | .n1 _ a => a.nv
  | .n2 _ a b => a.nv + b.nv
  | .n3 _ a b c => a.nv + b.nv + c.nv
  | .rc a b c d => a.nv + b.nv + c.nv + d.nv
/-- what is free, in the order of the text -/
@[simp] def Th.fr : Th → Int → List Int
  | .var n, o => if o ≤ n then [n - o] else []
  | .nm _, _ => [] | .n0 _, _ => []
  | .n1 _ a, o => a.fr o
  | .n2 .all a b, o => a.fr o ++ b.fr (o + 1)
  | .n2 .some a b, o => a.fr o ++ b.fr (o + 1)
  | .n2 .fun' a b, o => a.fr o ++ b.fr (o + 1)
  | .n2 _ a b, o => a.fr o ++ b.fr o
  | .n3 .carry a b c, o => a.fr (o + 1) ++ b.fr o ++ c.fr o
  | .n3 _ a b c, o => a.fr o ++ b.fr o ++ c.fr o
  | .rc a b c d, o => a.fr (o + 1) ++ b.fr o ++ c.fr o ++ d.fr o
theorem fr_len : ∀ (t : Th) (o : Int), (t.fr o).length ≤ t.nv
  | .var n, o => by simp only [Th.fr, Th.nv]; split <;> simp
  | .nm _, _ => by simp
  | .n0 _, _ => by simp
  | .n1 _ a, o => by simp only [Th.fr, Th.nv]; exact fr_len a o
  | .n2 w a b, o => by
    have := fr_len a o; have := fr_len b o; have := fr_len b (o + 1)
    cases w <;> simp only [Th.fr, Th.nv, List.length_append] <;> omega
  | .n3 w a b c, o => by
    have := fr_len a o; have := fr_len a (o + 1); have := fr_len b o; have := fr_len c o
    cases w <;> simp only [Th.fr, Th.nv, List.length_append] <;> omega
  | .rc a b c d, o => by
    have := fr_len a (o + 1); have := fr_len b o; have := fr_len c o; have := fr_len d o
    simp only [Th.fr, Th.nv, List.length_append]; omega
def SLFree (c : Cf) (d : Nat) : Prop := ∀ (t : Th) (o : Int) (S : Sto), t.dp ≤ d → t.nv ≤ 1000000 → c [.p t.e, .p (.int o)] S = .ok (.loc S.length) (S ++ [.lst ((t.fr o).map .int)])
section
variable {cl : Cl} {kf kb kk d : Nat}
theorem lfree_ok (hb : SBinds (cl kb)) (hk : SKids (cl kk)) (ih : SLFree (cl kf) d) : SLFree (runD cl 2 6 (m_l_free kf kb kk)) (d + 1) := by
  intro t o S hd hv
  unfold m_l_free
  unfold SKids at hk
  unfold SBinds at hb
  cases t with
  | var n => by_cases c : o ≤ n <;> simp [runD, c]
  | nm s => simp [runD, hk, hb]
  | n0 w => cases w <;> simp [runD, hk, hb]
  | n1 w a =>
    simp only [Th.dp, Th.nv] at hd hv
    have ha := fun o S => ih a o S (by omega) (by omega)
    have l1 : ∀ o, (a.fr o).length ≤ 1000000 := fun o => by have := fr_len a o; omega
    cases w <;> simp [runD, hk, hb, ha, rg1, for_cons0, l1]
  | n2 w a b =>
    simp only [Th.dp, Th.nv] at hd hv
    have ha := fun o S => ih a o S (by omega) (by omega)
    have hb' := fun o S => ih b o S (by omega) (by omega)
    have l1 : ∀ o, (a.fr o).length ≤ 1000000 := fun o => by have := fr_len a o; omega
    have l2 : ∀ o p, (a.fr o).length + (b.fr p).length ≤ 1000000 := fun o p => by have := fr_len a o; have := fr_len b p; omega
    cases w <;> simp [runD, hk, hb, ha, hb', rg2, for_cons0, l1, l2]
  | n3 w a b c =>
    simp only [Th.dp, Th.nv] at hd hv
    have ha := fun o S => ih a o S (by omega) (by omega)
    have hb' := fun o S => ih b o S (by omega) (by omega)
    have hc := fun o S => ih c o S (by omega) (by omega)
    have l1 : ∀ o, (a.fr o).length ≤ 1000000 := fun o => by have := fr_len a o; omega
    have l2 : ∀ o p, (a.fr o).length + (b.fr p).length ≤ 1000000 := fun o p => by have := fr_len a o; have := fr_len b p; omega
    have l3 : ∀ o p q, (a.fr o).length + ((b.fr p).length + (c.fr q).length) ≤ 1000000 := fun o p q => by have := fr_len a o; have := fr_len b p; have := fr_len c q; omega
    have l3' : ∀ o p q, (a.fr o).length + (b.fr p).length + (c.fr q).length ≤ 1000000 := fun o p q => by have := l3 o p q; omega
    cases w <;> simp [runD, hk, hb, ha, hb', hc, rg3, for_cons0, l1, l2, l3, l3']
  | rc a b c e =>
    simp only [Th.dp, Th.nv] at hd hv
    have ha := fun o S => ih a o S (by omega) (by omega)
    have hb' := fun o S => ih b o S (by omega) (by omega)
    have hc := fun o S => ih c o S (by omega) (by omega)
    have he := fun o S => ih e o S (by omega) (by omega)
    have l1 : ∀ o, (a.fr o).length ≤ 1000000 := fun o => by have := fr_len a o; omega
    have l2 : ∀ o p, (a.fr o).length + (b.fr p).length ≤ 1000000 := fun o p => by have := fr_len a o; have := fr_len b p; omega
    have l3 : ∀ o p q, (a.fr o).length + ((b.fr p).length + (c.fr q).length) ≤ 1000000 := fun o p q => by have := fr_len a o; have := fr_len b p; have := fr_len c q; omega
    have l3' : ∀ o p q, (a.fr o).length + (b.fr p).length + (c.fr q).length ≤ 1000000 := fun o p q => by have := l3 o p q; omega
    have l4 : ∀ o p q r, (a.fr o).length + ((b.fr p).length + ((c.fr q).length + (e.fr r).length)) ≤ 1000000 := fun o p q r => by have := fr_len a o; have := fr_len b p; have := fr_len c q; have := fr_len e r; omega
    have l4' : ∀ o p q r, (a.fr o).length + ((b.fr p).length + (c.fr q).length) + (e.fr r).length ≤ 1000000 := fun o p q r => by have := l4 o p q r; omega
    simp [runD, hk, hb, ha, hb', hc, he, rg4, for_cons0, l1, l2, l3, l3', l4, l4']
end
end Kp

set_option Elab.async false
set_option linter.all false
set_option maxRecDepth 100000
set_option maxHeartbeats 8000000
set_option autoImplicit false
/-! S6: noted, free_in. -/
namespace Kp
open PySem PySem.Spec PyProof.Rows L2
def encK (kv : List (Int × Int)) : List (Key × P) := kv.map fun p => (.inl p.1, .int p.2)
def cnt : List (Int × Int) → Int → Int
  | [], _ => 0
  | (a, c) :: r, k => if a = k then c else cnt r k
def put1 (kv : List (Int × Int)) (k v : Int) : List (Int × Int) := if (kv.any fun p => decide (p.1 = k)) = true then kv.map (fun p => if p.1 = k then (p.1, v) else p) else kv ++ [(k, v)]
def bump (kv : List (Int × Int)) (k : Int) : List (Int × Int) := put1 kv k (cnt kv k + 1)
theorem inl_dec {a k : Int} : decide ((Sum.inl a : Key) = Sum.inl k) = decide (a = k) := by
  by_cases h : a = k
  · subst h; simp
  · have : (Sum.inl a : Key) ≠ Sum.inl k := fun e => h (Sum.inl.inj e)
    simp [h, this]
theorem luK_enc : ∀ {kv : List (Int × Int)} {k : Int}, (luK (encK kv) (.inl k)).getD (.int 0) = .int (cnt kv k)
  | [], k => rfl
  | (a, c) :: r, k => by
    show (luK ((.inl a, .int c) :: encK r) (.inl k)).getD (.int 0) = _
    rw [luK_cons]
    by_cases h : a = k
    · subst h; simp [cnt]
    · have : (Sum.inl a : Key) ≠ Sum.inl k := fun e => h (Sum.inl.inj e)
      rw [if_neg this, luK_enc]; simp [cnt, h]
theorem any_enc : ∀ {kv : List (Int × Int)} {k : Int}, ((encK kv).any fun kv => decide (kv.1 = Sum.inl k)) = kv.any fun p => decide (p.1 = k)
  | [], k => rfl
  | (a, c) :: r, k => by
    show (decide ((Sum.inl a : Key) = Sum.inl k) || (encK r).any fun kv => decide (kv.1 = Sum.inl k)) = (decide (a = k) || r.any fun p => decide (p.1 = k))
    rw [any_enc, inl_dec]
theorem map_enc : ∀ {kv : List (Int × Int)} {k v : Int}, ((encK kv).map fun kv => if kv.1 = Sum.inl k then (kv.1, PyData.int v) else kv) = encK (kv.map fun p => if p.1 = k then (p.1, v) else p)
  | [], k, v => rfl
  | (a, c) :: r, k, v => by
    show (if (Sum.inl a : Key) = Sum.inl k then (Sum.inl a, PyData.int v) else (Sum.inl a, PyData.int c)) :: ((encK r).map fun kv => if kv.1 = Sum.inl k then (kv.1, PyData.int v) else kv) = encK ((if a = k then (a, v) else (a, c)) :: r.map fun p => if p.1 = k then (p.1, v) else p)
    rw [map_enc]
    by_cases h : a = k
    · subst h; simp [encK]
    · have : (Sum.inl a : Key) ≠ Sum.inl k := fun e => h (Sum.inl.inj e)
      simp [encK, h]
theorem puK_enc {kv : List (Int × Int)} {k v : Int} : puK (encK kv) (.inl k) (.int v) = encK (put1 kv k v) := by
  unfold puK put1
  rw [any_enc]
  split
  · exact map_enc
  · simp [encK]
theorem bump_len {kv : List (Int × Int)} {k : Int} : (bump kv k).length ≤ kv.length + 1 := by
  unfold bump put1
  split <;> simp
theorem bumps_len : ∀ {l : List Int} {kv : List (Int × Int)}, (l.foldl bump kv).length ≤ kv.length + l.length
  | [], kv => by simp
  | k :: l, kv => by
    have h1 := bump_len (kv := kv) (k := k)
    have h2 := bumps_len (l := l) (kv := bump kv k)
    simp only [List.foldl_cons, List.length_cons]
    omega
def SNoted (c : Cf) (d : Nat) : Prop := ∀ (t : Th) (S : Sto) (i : Nat) (kv : List (Int × Int)) (o : Int), t.dp ≤ d → S[i]? = some (.dct (encK kv)) → kv.length + t.nv < 1000000 →
  c [.p t.e, .p (.int o), .loc i] S = .ok (.p .none) (S.set i (.dct (encK ((t.fr o).foldl bump kv))))
/-- the kids with their binds -/
def Th.kb (t : Th) : List (Th × Nat) := t.kids.zip t.binds
def frs' (ks : List (Th × Nat)) (o : Int) : List Int := ks.flatMap fun q => q.1.fr (o + q.2)
theorem fr_kb (t : Th) (o : Int) (h : ∀ n, t ≠ .var n) : t.fr o = frs' t.kb o := by
  cases t with
  | var n => exact absurd rfl (h n)
  | nm s => rfl
  | n0 w => rfl
  | n1 w a => simp [Th.kb, frs']
  | n2 w a b => cases w <;> simp [Th.kb, frs']
  | n3 w a b c => cases w <;> simp [Th.kb, frs']
  | rc a b c d => simp [Th.kb, frs']
theorem kb_len (t : Th) : t.kids.length = t.binds.length := by
  cases t with
  | n2 w a b => cases w <;> rfl
  | n3 w a b c => cases w <;> rfl
  | _ => rfl
theorem kb_dp (t : Th) {d : Nat} (h : t.dp ≤ d + 1) : ∀ q ∈ t.kb, q.1.dp ≤ d := by
  cases t with
  | n1 w a => simp [Th.kb] at *; omega
  | n2 w a b => simp only [Th.dp] at h; cases w <;> simp [Th.kb] <;> omega
  | n3 w a b c => simp only [Th.dp] at h; cases w <;> simp [Th.kb] <;> omega
  | rc a b c d => simp only [Th.dp] at h; simp [Th.kb]; omega
  | _ => simp [Th.kb]
def nvs (ks : List (Th × Nat)) : Nat := (ks.map fun q => q.1.nv).sum
theorem kb_nv (t : Th) : nvs t.kb ≤ t.nv := by
  cases t with
  | n2 w a b => cases w <;> simp [Th.kb, nvs]
  | n3 w a b c => cases w <;> simp [Th.kb, nvs] <;> omega
  | rc a b c d => simp [Th.kb, nvs]; omega
  | _ => simp [Th.kb, nvs]
theorem kb_zip (t : Th) : ((t.kids.map Th.e).zip (t.binds.map fun (n : Nat) => PyData.int (n : Int))).map (fun q => PV.p (.tuple [q.1, q.2])) = t.kb.map fun q => PV.p (.tuple [q.1.e, .int (q.2 : Int)]) := by
  unfold Th.kb
  rw [List.zip_map, List.map_map]
  rfl
section
variable {cl : Cl} {kf kb kk d : Nat}
theorem note_loop {i k1 k2 : Nat} {th : Option PV} {o : Int} {xs ys : List P} (ih : SNoted (cl kf) d) (n1 : i ≠ k1) (n2 : i ≠ k2) (hx : ∀ x ∈ xs, pdB x x = true) (hy : ∀ x ∈ ys, pdB x x = true) :
    ∀ (ks : List (Th × Nat)) (kd bd : Option PV) (S : Sto) (kv : List (Int × Int)), (∀ q ∈ ks, q.1.dp ≤ d) → S[i]? = some (.dct (encK kv)) → S[k1]? = some (.lst xs) → S[k2]? = some (.lst ys) → kv.length + nvs ks < 1000000 →
    ∃ kd' bd', forL (.tp [3, 4]) [(k1, xs), (k2, ys)] (exss cl (.cons (.ex (.call kf (.cons (.v 3) (.cons (.bin .add (.v 1) (.v 4)) (.cons (.v 2) .nil))))) .nil)) (ks.map fun q => PV.p (.tuple [q.1.e, .int (q.2 : Int)]))
      [th, some (.p (.int o)), some (.loc i), kd, bd] S = .nx [th, some (.p (.int o)), some (.loc i), kd', bd'] (S.set i (.dct (encK ((frs' ks o).foldl bump kv))))
  | [], kd, bd, S, kv, _, h1, h2, h3, _ => by
    refine ⟨kd, bd, ?_⟩
    rw [List.map_nil, for_nil (by simp [h2, h3, wtC_ hx, wtC_ hy])]
    simp [frs', set_same h1]
  | q :: ks, kd, bd, S, kv, hd, h1, h2, h3, hl => by
    have hl' : kv.length + (q.1.nv + nvs ks) < 1000000 := by simpa [nvs] using hl
    have e := ih q.1 S i kv (o + q.2) (hd q List.mem_cons_self) h1 (by omega)
    have bl := bumps_len (l := q.1.fr (o + q.2)) (kv := kv)
    have fl := fr_len q.1 (o + q.2)
    obtain ⟨kd', bd', r⟩ := note_loop ih n1 n2 hx hy ks (some (.p q.1.e)) (some (.p (.int (q.2 : Int)))) (S.set i (.dct (encK ((q.1.fr (o + q.2)).foldl bump kv)))) ((q.1.fr (o + q.2)).foldl bump kv)
      (fun x hx => hd x (List.mem_cons_of_mem _ hx)) (set_at (has_of h1)) (by rw [List.getElem?_set_ne n1]; exact h2) (by rw [List.getElem?_set_ne n2]; exact h3) (by omega)
    refine ⟨kd', bd', ?_⟩
    rw [List.map_cons, for_cons (by simp [h2, h3, wtC_ hx, wtC_ hy])]
    simp [e]
    simp at r
    rw [r]
    simp [frs', List.foldl_append]
theorem noted_ok (hb : SBinds (cl kb)) (hk : SKids (cl kk)) (ih : SNoted (cl kf) d) : SNoted (runD cl 3 5 (m_noted kk kb kf)) (d + 1) := by
  intro t S i kv o hd h hl
  have hi := has_of h
  have hk' := fun S => hk t S
  have hb' := fun S => hb t S
  unfold m_noted
  by_cases hv : ∃ n, t = .var n
  · obtain ⟨n, rfl⟩ := hv
    simp at hk' hb'
    by_cases c : o ≤ n
    · have e := luK_enc (kv := kv) (k := n - o)
      have hl2 : (encK kv).length < 1000000 := by unfold encK; rw [List.length_map]; omega
      have e2 := puK_enc (kv := kv) (k := n - o) (v := cnt kv (n - o) + 1)
      simp [runD, c, h, hi, e, hl2, e2, hk', hb', set_at, for_nil, bump]
    · simp [runD, c, hk', hb', for_nil, set_same h]
  · have hv' : ∀ n, t ≠ .var n := fun n e => hv ⟨n, e⟩
    have nw : t.w ≠ "var" := by
      cases t with
      | var n => exact absurd rfl (hv' n)
      | n0 w => cases w <;> simp
      | n1 w a => cases w <;> simp
      | n2 w a b => cases w <;> simp
      | n3 w a b c => cases w <;> simp
      | _ => simp
    have ne1 : i ≠ S.length := by unfold Has at hi; omega
    have ne2 : i ≠ S.length + 1 := by unfold Has at hi; omega
    have kn := kb_nv t
    obtain ⟨kd', bd', r⟩ := note_loop (i := i) (k1 := S.length) (k2 := S.length + 1) (th := some (.p t.e)) (o := o) (xs := t.kids.map Th.e) (ys := t.binds.map fun (n : Nat) => PyData.int (n : Int)) ih ne1 ne2
      (fun x hx => by obtain ⟨y, _, rfl⟩ := List.mem_map.mp hx; exact pd_e y) (fun x hx => by obtain ⟨y, _, rfl⟩ := List.mem_map.mp hx; exact pd_i)
      t.kb none none (S ++ [.lst (t.kids.map Th.e), .lst (t.binds.map fun (n : Nat) => PyData.int (n : Int))]) kv (kb_dp t hd) (by rw [at_old hi]; exact h) (by simp) (by simp) (by omega)
    have z := kb_zip t
    simp [runD, nw, hk', hb', kb_len t]
    try simp at r
    try simp at z
    rw [z, r]
    simp [hi, fr_kb t o hv']
theorem keys_enc {kv : List (Int × Int)} : (encK kv).map (fun kv => pKey kv.1) = (kv.map (·.1)).map PyData.int := by
  unfold encK
  rw [List.map_map, List.map_map]
  rfl
def SFreeIn (c : Cf) (d : Nat) : Prop := ∀ (t : Th) (S : Sto), t.dp ≤ d → t.nv < 1000000 → c [.p t.e] S = .ok (.loc S.length) (S ++ [.lst ((sortI (((t.fr 0).foldl bump []).map (·.1))).map .int)])
theorem freein_ok (ih : SNoted (cl kf) d) : SFreeIn (runD cl 1 2 (m_free_in kf)) d := by
  intro t S hd hl
  have e := ih t (S ++ [.dct []]) S.length [] 0 hd (by simp [encK]) (by simpa using hl)
  unfold m_free_in
  have k := keys_enc (kv := (t.fr 0).foldl bump [])
  simp [runD, e, k, -List.map_map]
end
end Kp

set_option Elab.async false
set_option linter.all false
set_option maxRecDepth 100000
set_option maxHeartbeats 8000000
set_option autoImplicit false
/-! S7: what is alike; trees, deep things. -/
namespace Kp
open PySem PySem.Spec PyProof.Rows L2
def eqC (c d : Option Cell) (S : Sto) : R Bool := match c, d with
  | some (.lst a), some (.lst b) => if (SeqAt.shaped (.list a) && SeqAt.shaped (.list b)) = true then .ok (PyData.eqv (.list a) (.list b)) S else .no
  | some (.dct a), some (.dct b) => if (dshB a && dshB b) = true then .ok (dqP a b) S else .no
  | _, _ => .no
@[simp] theorem e_loc {i j : Nat} {S : Sto} : eqV' (.loc i) (.loc j) S = eqC S[i]? S[j]? S := by
  unfold eqV'
  dsimp only
  unfold dqV datV dcvV eqC
  dsimp only
  cases S[i]? with
  | none => rfl
  | some c => cases c with
    | lst a => cases S[j]? with
      | none => rfl
      | some d => cases d <;> rfl
    | dct a => cases S[j]? with
      | none => rfl
      | some d => cases d <;> rfl
theorem eqC_l {a b : List P} {S : Sto} (h : (SeqAt.shaped (.list a) && SeqAt.shaped (.list b)) = true) : eqC (some (.lst a)) (some (.lst b)) S = .ok (PyData.eqv (.list a) (.list b)) S := if_pos h
@[simp] theorem eqC_d {a b : List (Key × P)} {S : Sto} (h : (dshB a && dshB b) = true) : eqC (some (.dct a)) (some (.dct b)) S = .ok (dqP a b) S := if_pos h
@[simp] theorem eqC_0 {S : Sto} : eqC (some (.lst [])) (some (.lst [])) S = .ok true S := id rfl
@[simp] theorem e_bool {a b : Bool} {S : Sto} : eqV' (.p (.bool a)) (.p (.bool b)) S = .ok (decide (a = b)) S := by
  cases a <;> cases b <;> rfl
@[simp] theorem e_none {S : Sto} : eqV' (.p .none) (.p .none) S = .ok true S := id rfl
/-- plain data of so much depth -/
def Pl : Nat → P → Prop
  | 0, _ => False
  | d + 1, .tuple xs => xs.length ≤ 1000000 ∧ ∀ x ∈ xs, Pl d x
  | _ + 1, .int _ => True
  | _ + 1, .str _ => True
  | _ + 1, .bool _ => True
  | _ + 1, .none => True
  | _ + 1, _ => False
def SAlike (c : Cf) (d : Nat) : Prop := ∀ (x : P) (S : Sto), Pl d x → c [.p x, .p x] S = .ok (.p (.bool true)) S
section
variable {cl : Cl} {k d : Nat}
theorem alike_1 {xs : List P} {S : Sto} (ih : SAlike (cl k) d) (hx : ∀ x ∈ xs, Pl d x) : ∀ x ∈ List.range xs.length, ∀ acc : List P, evC cl (.one (.not' (.call k (.cons (.ix (.v 0) (.v 2)) (.cons (.ix (.v 1) (.v 2)) .nil))))) (List.set [some (.p (.tuple xs)), some (.p (.tuple xs)), none] 2 (some (.p (.int (0 + (x : Int)))))) (S ++ [.lst acc]) = .ok false (S ++ [.lst acc]) ∧ (false = true → ev cl (.v 2) (List.set [some (.p (.tuple xs)), some (.p (.tuple xs)), none] 2 (some (.p (.int (0 + (x : Int)))))) (S ++ [.lst acc]) = .ok (.p .none) (S ++ [.lst acc])) := by
  intro j hj acc
  have hj' : j < xs.length := List.mem_range.mp hj
  have e := ih xs[j] (S ++ [.lst acc]) (hx _ (List.getElem_mem hj'))
  simp [ix_n, List.getElem?_eq_getElem hj', e]
theorem alike_2 {xs : List P} {S : Sto} (hl : xs.length ≤ 1000000) (hh : ∀ x ∈ List.range xs.length, ∀ acc : List P, evC cl (.one (.not' (.call k (.cons (.ix (.v 0) (.v 2)) (.cons (.ix (.v 1) (.v 2)) .nil))))) (List.set [some (.p (.tuple xs)), some (.p (.tuple xs)), none] 2 (some (.p (.int (0 + (x : Int)))))) (S ++ [.lst acc]) = .ok false (S ++ [.lst acc]) ∧ (false = true → ev cl (.v 2) (List.set [some (.p (.tuple xs)), some (.p (.tuple xs)), none] 2 (some (.p (.int (0 + (x : Int)))))) (S ++ [.lst acc]) = .ok (.p .none) (S ++ [.lst acc]))) : compL (ev cl (.v 2)) (evC cl (.one (.not' (.call k (.cons (.ix (.v 0) (.v 2)) (.cons (.ix (.v 1) (.v 2)) .nil)))))) 2 [] S.length ((List.range xs.length).map fun (k : Nat) => PV.p (.int (0 + k))) [some (.p (.tuple xs)), some (.p (.tuple xs)), none] (S ++ [.lst []]) = .ok () (S ++ [.lst []]) := by
  have c := compL_ok (el := ev cl (.v 2)) (tst := evC cl (.one (.not' (.call k (.cons (.ix (.v 0) (.v 2)) (.cons (.ix (.v 1) (.v 2)) .nil)))))) (i := 2) (w := []) (S0 := S) (en := [some (.p (.tuple xs)), some (.p (.tuple xs)), none])
    (fun (k : Nat) => PV.p (.int (0 + k))) (fun _ => false) (fun _ => .none) (fun q hq => absurd hq List.not_mem_nil) (fun q hq => absurd hq List.not_mem_nil) (List.range xs.length) [] hh (by simp; omega)
  have hf : (List.range xs.length).filter (fun _ => false) = [] := List.filter_eq_nil_iff.mpr (by simp)
  rw [hf] at c
  exact c
theorem alike_t {xs : List P} {S : Sto} (hb : ((xs.length : Nat) : Int) < 4611686018427387904) (c : compL (ev cl (.v 2)) (evC cl (.one (.not' (.call k (.cons (.ix (.v 0) (.v 2)) (.cons (.ix (.v 1) (.v 2)) .nil)))))) 2 [] S.length ((List.range xs.length).map fun (k : Nat) => PV.p (.int (0 + k))) [some (.p (.tuple xs)), some (.p (.tuple xs)), none] (S ++ [.lst []]) = .ok () (S ++ [.lst []])) : runD cl 2 3 (m_l_alike k) [.p (.tuple xs), .p (.tuple xs)] S = .ok (.p (.bool true)) S := by
  unfold m_l_alike
  simp at c
  simp [runD, hb, c]
theorem alike_i {i : Int} {S : Sto} : runD cl 2 3 (m_l_alike k) [.p (.int i), .p (.int i)] S = .ok (.p (.bool true)) S := by
  unfold m_l_alike
  simp [runD]
theorem alike_s {i : Str} {S : Sto} : runD cl 2 3 (m_l_alike k) [.p (.str i), .p (.str i)] S = .ok (.p (.bool true)) S := by
  unfold m_l_alike
  simp [runD]
theorem alike_b {i : Bool} {S : Sto} : runD cl 2 3 (m_l_alike k) [.p (.bool i), .p (.bool i)] S = .ok (.p (.bool true)) S := by
  unfold m_l_alike
  simp [runD]
theorem alike_n {S : Sto} : runD cl 2 3 (m_l_alike k) [.p .none, .p .none] S = .ok (.p (.bool true)) S := by
  unfold m_l_alike
  simp [runD]
theorem len_b {n : Nat} (h : n ≤ 1000000) : (n : Int) < 4611686018427387904 := by omega
theorem alike_ok (ih : SAlike (cl k) d) : SAlike (runD cl 2 3 (m_l_alike k)) (d + 1) := fun x S hx => match x, hx with
  | .tuple _, hx => alike_t (len_b hx.1) (alike_2 hx.1 (alike_1 ih hx.2))
  | .int _, _ => alike_i
  | .str _, _ => alike_s
  | .bool _, _ => alike_b
  | .none, _ => alike_n
  | .list _, hx => hx.elim
  | .dict _, hx => hx.elim
end
end Kp

set_option Elab.async false
set_option linter.all false
set_option maxRecDepth 100000
set_option maxHeartbeats 8000000
set_option autoImplicit false
/-! S7: what is alike; trees, deep things. -/
namespace Kp
open PySem PySem.Spec PyProof.Rows L2
/-! trees -/
@[simp] def Th.vs : Th → Prop
  | .var n => 0 ≤ n ∧ n < 100
  | .nm _ => True | .n0 _ => True
  | .n1 _ a => a.vs
  | .n2 _ a b => a.vs ∧ b.vs
  | .n3 _ a b c => a.vs ∧ b.vs ∧ c.vs
  | .rc a b c d => a.vs ∧ b.vs ∧ c.vs ∧ d.vs
theorem nv_pos : ∀ t : Th, 1 ≤ t.nv
  | .var _ => by simp
  | .nm _ => by simp
  | .n0 _ => by simp
  | .n1 _ a => by have := nv_pos a; simp only [Th.nv]; omega
  | .n2 _ a b => by have := nv_pos a; simp only [Th.nv]; omega
  | .n3 _ a b c => by have := nv_pos a; simp only [Th.nv]; omega
  | .rc a b c d => by have := nv_pos a; simp only [Th.nv]; omega
theorem dp_pos (t : Th) : 1 ≤ t.dp := by cases t <;> simp
section
variable {cl : Cl} {S : Sto}
theorem tree_ok {c : Int} : ∃ t : Th, t.vs ∧ t.dp ≤ 154 ∧ t.nv ≤ 5000 ∧ runD cl 1 3 m_l_tree [.p (.int c)] S = .ok (.p t.e) S := by
  unfold m_l_tree
  obtain ⟨m, hm, hm2⟩ : ∃ m : Nat, 4 + c / 9 % 5 = (m : Int) ∧ m ≤ 8 := ⟨(4 + c / 9 % 5).toNat, by omega, by omega⟩
  obtain ⟨en', S', e1, e2⟩ := for_inv (tg := .nm 2) (w := []) (b := exss cl (.cons (.ift (.and' (.cmp .eq (.v 2) (.c (.int 3))) (.cmp .eq (.bin .mod (.v 0) (.c (.int 2))) (.c (.int 0)))) (.cons (.asg (.nm 1) (.tup (.cons (.c (.str "fun")) (.cons (.tup (.cons (.c (.str "nat")) .nil)) (.cons (.v 1) .nil)))))
    .nil) (.cons (.asg (.nm 1) (.tup (.cons (.c (.str "app")) (.cons (.v 1) (.cons (.v 1) .nil)))))
    .nil))
    .nil)) (fun r en S1 => S1 = S ∧ ∃ (l : List Nat) (t : Th) (q : Option PV), r = l.map (fun (k : Nat) => PV.p (.int (0 + k))) ∧ en = [some (.p (.int c)), some (.p t.e), q] ∧ t.vs ∧ t.dp + l.length ≤ 9 ∧ t.nv * 2 ^ l.length ≤ 256)
    (its := (List.range m).map fun (k : Nat) => PV.p (.int (0 + k))) (en := [some (.p (.int c)), some (.p (Th.var (c % 9)).e), none]) (S := S)
    (fun _ _ _ _ => rfl)
    (fun x r en S1 h => by
      obtain ⟨rfl, l, t, q, hr, rfl, hv, hd, hn⟩ := h
      cases l with
      | nil => cases hr
      | cons k l =>
        simp only [List.map_cons, List.cons.injEq] at hr
        obtain ⟨rfl, rfl⟩ := hr
        have p := nv_pos t
        have p2 := dp_pos t
        simp only [List.length_cons, Nat.pow_succ] at hd hn
        by_cases c1 : k = 3
        · by_cases c2 : c % 2 = 0
          · have hn2 : (1 + t.nv) * 2 ^ l.length ≤ 256 := by
              have : (1 + t.nv) * 2 ^ l.length ≤ (t.nv * 2) * 2 ^ l.length := Nat.mul_le_mul_right _ (by omega)
              have e : t.nv * 2 * 2 ^ l.length = t.nv * (2 ^ l.length * 2) := by rw [Nat.mul_assoc, Nat.mul_comm 2]
              omega
            exact ⟨_, [some (.p (.int c)), some (.p (Th.n2 .fun' (.n0 .nat) t).e), some (.p (.int (0 + k)))], _, rfl, .inl (by simp [c1, c2, Th.e]), rfl, l, .n2 .fun' (.n0 .nat) t, _, rfl, rfl, ⟨trivial, hv⟩, by simp only [Th.dp]; omega, hn2⟩
          · have hn2 : (t.nv + t.nv) * 2 ^ l.length ≤ 256 := by
              have e : (t.nv + t.nv) * 2 ^ l.length = t.nv * (2 ^ l.length * 2) := by rw [← Nat.mul_two, Nat.mul_assoc, Nat.mul_comm 2]
              omega
            exact ⟨_, [some (.p (.int c)), some (.p (Th.n2 .app t t).e), some (.p (.int (0 + k)))], _, rfl, .inl (by simp [c1, c2, Th.e]), rfl, l, .n2 .app t t, _, rfl, rfl, ⟨hv, hv⟩, by simp only [Th.dp]; omega, hn2⟩
        · have c1 : ¬ ((k : Int) = 3) := by omega
          have hn2 : (t.nv + t.nv) * 2 ^ l.length ≤ 256 := by
            have e : (t.nv + t.nv) * 2 ^ l.length = t.nv * (2 ^ l.length * 2) := by rw [← Nat.mul_two, Nat.mul_assoc, Nat.mul_comm 2]
            omega
          exact ⟨_, [some (.p (.int c)), some (.p (Th.n2 .app t t).e), some (.p (.int (0 + k)))], _, rfl, .inl (by simp [c1, Th.e]), rfl, l, .n2 .app t t, _, rfl, rfl, ⟨hv, hv⟩, by simp only [Th.dp]; omega, hn2⟩)
    ⟨rfl, List.range m, .var (c % 9), none, rfl, rfl, ⟨by omega, by omega⟩, by simp; omega, by
      simp only [Th.nv, List.length_range, Nat.one_mul]
      exact Nat.pow_le_pow_right (by decide) hm2⟩
  obtain ⟨rfl, l, t, q, hr, rfl, hv, hd, hn⟩ := e2
  have hl : l = [] := by
    cases l with
    | nil => rfl
    | cons _ _ => cases hr
  subst hl
  refine ⟨t, hv, by omega, by simp at hn; omega, ?_⟩
  have hb : ((m : Nat) : Int) < 4611686018427387904 := by omega
  simp [Th.e] at e1
  simp [runD, hm, hb, e1]
end
end Kp

set_option Elab.async false
set_option linter.all false
set_option maxRecDepth 100000
set_option maxHeartbeats 8000000
set_option autoImplicit false
/-! S8: deep things. -/
namespace Kp
open PySem PySem.Spec PyProof.Rows L2
def deepB : Sms := (.cons (.asg (.nm 5) (.bin .mod (.bin .add (.bin .add (.bin .fdiv (.v 0) (.c (.int 7))) (.bin .mul (.v 4) (.v 4))) (.bin .fdiv (.v 4) (.c (.int 3)))) (.c (.int 6))))
    (.cons (.asg (.nm 6) (.tup (.cons (.c (.str "var")) (.cons (.bin .mod (.bin .add (.v 0) (.v 4)) (.c (.int 30))) .nil))))
    (.cons (.ift (.cmp .lt (.v 3) (.bin .add (.c (.int 20)) (.bin .mod (.bin .fdiv (.v 0) (.c (.int 45))) (.c (.int 18))))) (.cons (.asg (.nm 3) (.bin .add (.v 3) (.ix (.lst (.cons (.c (.int 1)) (.cons (.c (.int 1)) (.cons (.c (.int 2)) (.cons (.c (.int 3)) (.cons (.c (.int 2)) (.cons (.c (.int 3)) .nil))))))) (.v 5))))
    (.cons (.ift (.cmp .eq (.v 5) (.c (.int 0))) (.cons (.asg (.nm 2) (.tup (.cons (.c (.str "fun")) (.cons (.v 1) (.cons (.v 2) .nil)))))
    .nil) (.cons (.ift (.cmp .eq (.v 5) (.c (.int 1))) (.cons (.asg (.nm 2) (.tup (.cons (.c (.str "app")) (.cons (.v 6) (.cons (.v 2) .nil)))))
    .nil) (.cons (.ift (.cmp .eq (.v 5) (.c (.int 2))) (.cons (.asg (.nm 2) (.tup (.cons (.c (.str "rec")) (.cons (.tup (.cons (.c (.str "same")) (.cons (.v 1) (.cons (.v 2) (.cons (.v 6) .nil))))) (.cons (.tup (.cons (.c (.str "zero")) .nil)) (.cons (.v 6) (.cons (.tup (.cons (.c (.str "var")) (.cons (.v 4) .nil))) .nil)))))))
    .nil) (.cons (.ift (.cmp .eq (.v 5) (.c (.int 3))) (.cons (.asg (.nm 2) (.tup (.cons (.c (.str "carry")) (.cons (.tup (.cons (.c (.str "all")) (.cons (.v 1) (.cons (.tup (.cons (.c (.str "same")) (.cons (.v 1) (.cons (.v 6) (.cons (.v 2) .nil))))) .nil)))) (.cons (.v 6) (.cons (.tup (.cons (.c (.str "zero")) .nil)) .nil))))))
    .nil) (.cons (.ift (.cmp .eq (.v 5) (.c (.int 4))) (.cons (.asg (.nm 2) (.tup (.cons (.c (.str "first")) (.cons (.tup (.cons (.c (.str "fun")) (.cons (.v 1) (.cons (.v 2) .nil)))) .nil))))
    .nil) (.cons (.asg (.nm 2) (.tup (.cons (.c (.str "never")) (.cons (.tup (.cons (.c (.str "some")) (.cons (.v 1) (.cons (.tup (.cons (.c (.str "same")) (.cons (.v 1) (.cons (.v 6) (.cons (.v 2) .nil))))) .nil)))) (.cons (.v 6) .nil)))))
    .nil))
    .nil))
    .nil))
    .nil))
    .nil))
    .nil)) .nil)
    .nil)))
def deepT (c : Int) (k : Nat) (t : Th) (w : Int) : Th := if w = 0 then Th.n2 .fun' (Th.n0 .nat) t else if w = 1 then Th.n2 .app (Th.var ((c + k) % 30)) t else if w = 2 then Th.rc (Th.n3 .same (Th.n0 .nat) t (Th.var ((c + k) % 30))) (Th.n0 .zero) (Th.var ((c + k) % 30)) (Th.var k) else if w = 3 then Th.n3 .carry (Th.n2 .all (Th.n0 .nat) (Th.n3 .same (Th.n0 .nat) (Th.var ((c + k) % 30)) t)) (Th.var ((c + k) % 30)) (Th.n0 .zero) else if w = 4 then Th.n1 .first (Th.n2 .fun' (Th.n0 .nat) t) else Th.n2 .never (Th.n2 .some (Th.n0 .nat) (Th.n3 .same (Th.n0 .nat) (Th.var ((c + k) % 30)) t)) (Th.var ((c + k) % 30))
def deepW (c : Int) (k : Nat) : Int := (c / 7 + (k : Int) * k + (k : Int) / 3) % 6
@[simp] theorem ix_5 {α : Type} {xs : List α} : ixP xs 5 = xs[5]? := id rfl
section
variable {cl : Cl} {S : Sto}
theorem deep_step {c z : Int} {k : Nat} {t : Th} {w s : Option PV} (hk : k < 38) : ∃ (t' : Th) (z' : Int) (w' s' : Option PV) (cs : Sto), (t' = t ∨ t' = deepT c k t (deepW c k)) ∧
    exss cl deepB [some (.p (.int c)), some (.p (Th.n0 .nat).e), some (.p t.e), some (.p (.int z)), some (.p (.int (0 + (k : Int)))), w, s] S =
      .nx [some (.p (.int c)), some (.p (Th.n0 .nat).e), some (.p t'.e), some (.p (.int z')), some (.p (.int (0 + (k : Int)))), w', s'] (S ++ cs) := by
  have hm : CMulB (k : Int) (k : Int) = true := cmul_r ⟨by omega, by omega⟩
  have h0 : 0 ≤ deepW c k := by unfold deepW; omega
  have h1 : deepW c k < 6 := by unfold deepW; omega
  have e : (c / 7 + (k : Int) * k + (k : Int) / 3) % 6 = deepW c k := rfl
  unfold deepB
  by_cases hz : z < 20 + c / 45 % 18
  · have hc : deepW c k = 0 ∨ deepW c k = 1 ∨ deepW c k = 2 ∨ deepW c k = 3 ∨ deepW c k = 4 ∨ deepW c k = 5 := by omega
    rcases hc with h | h | h | h | h | h
    · refine ⟨deepT c k t 0, z + 1, some (.p (.int 0)), some (.p (Th.var ((c + k) % 30)).e), [.lst [.int 1, .int 1, .int 2, .int 3, .int 2, .int 3]], .inr (by rw [h]), ?_⟩
      simp [hm, e, h, hz, Th.e, deepT]
    · refine ⟨deepT c k t 1, z + 1, some (.p (.int 1)), some (.p (Th.var ((c + k) % 30)).e), [.lst [.int 1, .int 1, .int 2, .int 3, .int 2, .int 3]], .inr (by rw [h]), ?_⟩
      simp [hm, e, h, hz, Th.e, deepT]
    · refine ⟨deepT c k t 2, z + 2, some (.p (.int 2)), some (.p (Th.var ((c + k) % 30)).e), [.lst [.int 1, .int 1, .int 2, .int 3, .int 2, .int 3]], .inr (by rw [h]), ?_⟩
      simp [hm, e, h, hz, Th.e, deepT]
    · refine ⟨deepT c k t 3, z + 3, some (.p (.int 3)), some (.p (Th.var ((c + k) % 30)).e), [.lst [.int 1, .int 1, .int 2, .int 3, .int 2, .int 3]], .inr (by rw [h]), ?_⟩
      simp [hm, e, h, hz, Th.e, deepT]
    · refine ⟨deepT c k t 4, z + 2, some (.p (.int 4)), some (.p (Th.var ((c + k) % 30)).e), [.lst [.int 1, .int 1, .int 2, .int 3, .int 2, .int 3]], .inr (by rw [h]), ?_⟩
      simp [hm, e, h, hz, Th.e, deepT]
    · refine ⟨deepT c k t 5, z + 3, some (.p (.int 5)), some (.p (Th.var ((c + k) % 30)).e), [.lst [.int 1, .int 1, .int 2, .int 3, .int 2, .int 3]], .inr (by rw [h]), ?_⟩
      simp [hm, e, h, hz, Th.e, deepT]
  · refine ⟨t, z, some (.p (.int (deepW c k))), some (.p (Th.var ((c + k) % 30)).e), [], .inl rfl, ?_⟩
    simp [hm, e, hz, Th.e]
theorem deepT_ok {c w : Int} {k : Nat} {t : Th} (hk : k < 38) (hv : t.vs) : (deepT c k t w).vs ∧ (deepT c k t w).dp ≤ t.dp + 3 ∧ (deepT c k t w).nv ≤ t.nv + 5 := by
  have p := dp_pos t
  unfold deepT
  split
  · exact ⟨⟨trivial, hv⟩, by simp only [Th.dp]; omega, by simp only [Th.nv]; omega⟩
  · split
    · exact ⟨⟨⟨by omega, by omega⟩, hv⟩, by simp only [Th.dp]; omega, by simp only [Th.nv]; omega⟩
    · split
      · exact ⟨⟨⟨trivial, hv, by omega, by omega⟩, trivial, ⟨by omega, by omega⟩, by omega, by omega⟩, by simp only [Th.dp]; omega, by simp only [Th.nv]; omega⟩
      · split
        · exact ⟨⟨⟨trivial, trivial, ⟨by omega, by omega⟩, hv⟩, ⟨by omega, by omega⟩, trivial⟩, by simp only [Th.dp]; omega, by simp only [Th.nv]; omega⟩
        · split
          · exact ⟨⟨trivial, hv⟩, by simp only [Th.dp]; omega, by simp only [Th.nv]; omega⟩
          · exact ⟨⟨⟨trivial, trivial, ⟨by omega, by omega⟩, hv⟩, by omega, by omega⟩, by simp only [Th.dp]; omega, by simp only [Th.nv]; omega⟩
theorem deep_loop {c : Int} : ∀ (l : List Nat) (t : Th) (z : Int) (q w s : Option PV) (S : Sto), (∀ k ∈ l, k < 38) → t.vs → ∃ (t' : Th) (z' : Int) (q' w' s' : Option PV) (cs : Sto), t'.vs ∧ t'.dp ≤ t.dp + 3 * l.length ∧ t'.nv ≤ t.nv + 5 * l.length ∧
    forL (.nm 4) [] (exss cl deepB) (l.map fun (k : Nat) => PV.p (.int (0 + (k : Int)))) [some (.p (.int c)), some (.p (Th.n0 .nat).e), some (.p t.e), some (.p (.int z)), q, w, s] S =
      .nx [some (.p (.int c)), some (.p (Th.n0 .nat).e), some (.p t'.e), some (.p (.int z')), q', w', s'] (S ++ cs)
  | [], t, z, q, w, s, S, _, hv => ⟨t, z, q, w, s, [], hv, by simp, by simp, by simp⟩
  | k :: l, t, z, q, w, s, S, hl, hv => by
    have hk := hl k List.mem_cons_self
    obtain ⟨t1, z1, w1, s1, c1, h1, e1⟩ := deep_step (cl := cl) (S := S) (c := c) (z := z) (t := t) (w := w) (s := s) hk
    have b : t1.vs ∧ t1.dp ≤ t.dp + 3 ∧ t1.nv ≤ t.nv + 5 := by
      rcases h1 with rfl | rfl
      · exact ⟨hv, by omega, by omega⟩
      · exact deepT_ok hk hv
    obtain ⟨t2, z2, q2, w2, s2, c2, a1, a2, a3, e2⟩ := deep_loop l t1 z1 (some (.p (.int (0 + (k : Int))))) w1 s1 (S ++ c1) (fun x hx => hl x (List.mem_cons_of_mem _ hx)) b.1
    refine ⟨t2, z2, q2, w2, s2, c1 ++ c2, a1, by simp only [List.length_cons]; omega, by simp only [List.length_cons]; omega, ?_⟩
    rw [List.map_cons, for_cons0, tgV_n, kTg_]
    show (exss cl deepB [some (.p (.int c)), some (.p (Th.n0 .nat).e), some (.p t.e), some (.p (.int z)), some (.p (.int (0 + (k : Int)))), w, s] S).lp _ = _
    rw [e1, lp_nx, e2, List.append_assoc]
theorem deep_ok {c : Int} : ∃ t : Th, t.vs ∧ t.dp ≤ 154 ∧ t.nv ≤ 5000 ∧ runD cl 1 7 m_l_deep [.p (.int c)] S = .ok (.p t.e) S := by
  obtain ⟨t, z, q, w, s, cs, a1, a2, a3, e⟩ := deep_loop (cl := cl) (c := c) (List.range 38) (.var (c % 45)) 1 none none none S (fun k hk => List.mem_range.mp hk) ⟨by omega, by omega⟩
  simp only [Th.dp, Th.nv, List.length_range] at a2 a3
  refine ⟨t, a1, by omega, by omega, ?_⟩
  have e' := e
  unfold deepB at e'
  unfold m_l_deep
  simp [Th.e] at e'
  simp [runD, e']
end
end Kp

set_option Elab.async false
set_option linter.all false
set_option maxRecDepth 100000
set_option maxHeartbeats 8000000
set_option autoImplicit false
/-! S12: the law of free variables, in the small language. -/
namespace Kp
open PySem PySem.Spec PyProof.Rows L2
/-! the plain law -/
theorem bump_mem {kv : List (Int × Int)} {k x : Int} : x ∈ (bump kv k).map (·.1) ↔ x = k ∨ x ∈ kv.map (·.1) := by
  unfold bump put1
  split
  · rename_i h
    obtain ⟨p, hp, e⟩ := List.any_eq_true.mp h
    have e := of_decide_eq_true e
    have e2 : (kv.map fun p => if p.1 = k then (p.1, cnt kv k + 1) else p).map (·.1) = kv.map (·.1) := by
      rw [List.map_map]
      apply List.map_congr_left
      intro a _
      dsimp only [Function.comp]
      split <;> rfl
    rw [e2]
    refine ⟨.inr, fun z => z.elim (fun z => ?_) id⟩
    subst z
    exact e ▸ List.mem_map.mpr ⟨p, hp, rfl⟩
  · rw [List.map_append, List.mem_append]
    simp
    constructor <;> (intro z; rcases z with z | z) <;> first | exact .inl z | exact .inr z
theorem bump_nd {kv : List (Int × Int)} {k : Int} (h : (kv.map (·.1)).Nodup) : ((bump kv k).map (·.1)).Nodup := by
  unfold bump put1
  split
  · have e2 : (kv.map fun p => if p.1 = k then (p.1, cnt kv k + 1) else p).map (·.1) = kv.map (·.1) := by
      rw [List.map_map]
      apply List.map_congr_left
      intro a _
      dsimp only [Function.comp]
      split <;> rfl
    rw [e2]; exact h
  · rename_i hn
    rw [List.map_append, List.nodup_append]
    refine ⟨h, by simp, fun a ha b hb e => hn ?_⟩
    have hb : b = k := by simpa using hb
    obtain ⟨p, hp, e2⟩ := List.mem_map.mp ha
    exact List.any_eq_true.mpr ⟨p, hp, decide_eq_true (e2.trans (e.trans hb))⟩
theorem bumps_mem : ∀ {l : List Int} {kv : List (Int × Int)} {x : Int}, x ∈ (l.foldl bump kv).map (·.1) ↔ x ∈ l ∨ x ∈ kv.map (·.1)
  | [], kv, x => by simp
  | k :: l, kv, x => by
    rw [List.foldl_cons, bumps_mem, bump_mem, List.mem_cons]
    constructor
    · rintro (h | h | h)
      · exact .inl (.inr h)
      · exact .inl (.inl h)
      · exact .inr h
    · rintro ((h | h) | h)
      · exact .inr (.inl h)
      · exact .inl h
      · exact .inr (.inr h)
theorem bumps_nd : ∀ {l : List Int} {kv : List (Int × Int)}, (kv.map (·.1)).Nodup → ((l.foldl bump kv).map (·.1)).Nodup
  | [], kv, h => h
  | k :: l, kv, h => bumps_nd (l := l) (bump_nd h)
theorem insI_mm {x y : Int} : ∀ {l : List Int}, y ∈ insI x l ↔ y = x ∨ y ∈ l
  | [] => by simp [insI]
  | z :: l => by
    unfold insI
    split
    · simp
    · rw [List.mem_cons, insI_mm, List.mem_cons]
      constructor
      · rintro (h | h | h)
        · exact .inr (.inl h)
        · exact .inl h
        · exact .inr (.inr h)
      · rintro (h | h | h)
        · exact .inr (.inl h)
        · exact .inl h
        · exact .inr (.inr h)
theorem insI_lt {x : Int} : ∀ {l : List Int}, l.Pairwise (· < ·) → x ∉ l → (insI x l).Pairwise (· < ·)
  | [], _, _ => by simp [insI]
  | z :: l, h, hx => by
    have h' := List.pairwise_cons.mp h
    have hz : x ≠ z := fun e => hx (e ▸ List.mem_cons_self)
    unfold insI
    split
    · rename_i hle
      refine List.pairwise_cons.mpr ⟨fun a ha => ?_, h⟩
      rcases List.mem_cons.mp ha with rfl | ha
      · omega
      · have := h'.1 a ha; omega
    · rename_i hle
      refine List.pairwise_cons.mpr ⟨fun a ha => ?_, insI_lt h'.2 fun q => hx (List.mem_cons_of_mem _ q)⟩
      rcases insI_mm.mp ha with rfl | ha
      · omega
      · exact h'.1 a ha
theorem sortI_mem {y : Int} : ∀ {l : List Int}, y ∈ sortI l ↔ y ∈ l
  | [] => by simp [sortI]
  | x :: l => by
    show y ∈ insI x (sortI l) ↔ _
    rw [insI_mm, sortI_mem, List.mem_cons]
theorem sortI_lt : ∀ {l : List Int}, l.Nodup → (sortI l).Pairwise (· < ·)
  | [], _ => List.Pairwise.nil
  | x :: l, h => by
    have h' := List.nodup_cons.mp h
    exact insI_lt (sortI_lt h'.2) fun q => h'.1 (sortI_mem.mp q)
theorem lt_ext : ∀ {l m : List Int}, l.Pairwise (· < ·) → m.Pairwise (· < ·) → (∀ x, x ∈ l ↔ x ∈ m) → l = m
  | [], [], _, _, _ => rfl
  | [], y :: m, _, _, h => absurd ((h y).mpr List.mem_cons_self) List.not_mem_nil
  | x :: l, [], _, _, h => absurd ((h x).mp List.mem_cons_self) List.not_mem_nil
  | x :: l, y :: m, hl, hm, h => by
    have h1 := List.pairwise_cons.mp hl
    have h2 := List.pairwise_cons.mp hm
    have e : x = y := by
      have a := (h x).mp List.mem_cons_self
      have b := (h y).mpr List.mem_cons_self
      rcases List.mem_cons.mp a with a | a
      · exact a
      · rcases List.mem_cons.mp b with b | b
        · exact b.symm
        · have := h1.1 y b; have := h2.1 x a; omega
    subst e
    congr 1
    refine lt_ext h1.2 h2.2 fun z => ⟨fun hz => ?_, fun hz => ?_⟩
    · rcases List.mem_cons.mp ((h z).mp (List.mem_cons_of_mem _ hz)) with rfl | q
      · have := h1.1 _ hz; omega
      · exact q
    · rcases List.mem_cons.mp ((h z).mpr (List.mem_cons_of_mem _ hz)) with rfl | q
      · have := h2.1 _ hz; omega
      · exact q
theorem inT_int {l : List Int} {x : Int} : inT (l.map PyData.int) (.int x) = decide (x ∈ l) := by
  induction l with
  | nil => rfl
  | cons a l ih =>
    rw [List.map_cons, inT_cons, ih, eqv_ii]
    by_cases h : a = x
    · subst h; simp
    · have h2 : ¬ x = a := fun e => h e.symm
      simp [h, h2]
theorem range_lt (n : Nat) (p : Nat → Bool) : (((List.range n).filter p).map fun (k : Nat) => (k : Int)).Pairwise (· < ·) := by
  rw [List.pairwise_map]
  refine List.Pairwise.imp (fun {a b} (h : a < b) => Int.ofNat_lt.mpr h) ?_
  exact List.Pairwise.filter _ List.pairwise_lt_range
/-- what the program tells is what is due -/
theorem due_eq {l : List Int} (h : ∀ x ∈ l, 0 ≤ x ∧ x < 100) : sortI ((l.foldl bump []).map (·.1)) = ((List.range 100).filter fun (k : Nat) => inT (l.map PyData.int) (.int (0 + (k : Int)))).map fun (k : Nat) => (k : Int) := by
  refine lt_ext (sortI_lt (bumps_nd List.nodup_nil)) (range_lt _ _) fun x => ?_
  rw [sortI_mem, bumps_mem]
  constructor
  · rintro (hx | hx)
    · obtain ⟨h0, h1⟩ := h x hx
      refine List.mem_map.mpr ⟨x.toNat, List.mem_filter.mpr ⟨List.mem_range.mpr (by omega), ?_⟩, by omega⟩
      have e : (0 + (x.toNat : Int)) = x := by omega
      rw [inT_int, e]
      exact decide_eq_true hx
    · cases hx
  · intro hx
    obtain ⟨k, hk, rfl⟩ := List.mem_map.mp hx
    have := (List.mem_filter.mp hk).2
    rw [inT_int, Int.zero_add] at this
    exact .inl (of_decide_eq_true this)
theorem fr_in : ∀ (t : Th) (o : Int), 0 ≤ o → t.vs → ∀ x ∈ t.fr o, 0 ≤ x ∧ x < 100
  | .var n, o, ho, hv, x, hx => by
    simp only [Th.fr] at hx
    split at hx
    · have : x = n - o := by simpa using hx
      have := hv.1; have := hv.2
      omega
    · simp at hx
  | .nm _, o, _, _, x, hx => by simp at hx
  | .n0 _, o, _, _, x, hx => by simp at hx
  | .n1 _ a, o, ho, hv, x, hx => fr_in a o ho hv x (by simpa using hx)
  | .n2 w a b, o, ho, hv, x, hx => by
    obtain ⟨va, vb⟩ := hv
    cases w <;> simp only [Th.fr, List.mem_append] at hx <;> rcases hx with hx | hx <;> first | exact fr_in a o ho va x hx | exact fr_in b o ho vb x hx | exact fr_in b (o + 1) (by omega) vb x hx
  | .n3 w a b c, o, ho, hv, x, hx => by
    obtain ⟨va, vb, vc⟩ := hv
    cases w <;> simp only [Th.fr, List.mem_append] at hx <;> rcases hx with (hx | hx) | hx <;> first | exact fr_in a o ho va x hx | exact fr_in a (o + 1) (by omega) va x hx | exact fr_in b o ho vb x hx | exact fr_in c o ho vc x hx
  | .rc a b c d, o, ho, hv, x, hx => by
    obtain ⟨va, vb, vc, vd⟩ := hv
    simp only [Th.fr, List.mem_append] at hx
    rcases hx with ((hx | hx) | hx) | hx
    · exact fr_in a (o + 1) (by omega) va x hx
    · exact fr_in b o ho vb x hx
    · exact fr_in c o ho vc x hx
    · exact fr_in d o ho vd x hx
theorem ok_bounds : ∀ (t : Th) (b : Bool) (d : Nat), t.gr b d → t.vs ∧ t.dp ≤ d ∧ t.nv ≤ 4 ^ (d - 1)
  | t, b, 0, h => by cases t <;> exact h.elim
  | .var n, b, d + 1, h => ⟨h.2, by simp, Nat.one_le_pow _ _ (by decide)⟩
  | .nm _, b, d + 1, h => ⟨trivial, by simp, Nat.one_le_pow _ _ (by decide)⟩
  | .n0 _, b, d + 1, h => ⟨trivial, by simp, Nat.one_le_pow _ _ (by decide)⟩
  | .n1 _ a, b, d + 1, h => by
    obtain ⟨h1, h2, h3⟩ := ok_bounds a _ d h.2
    refine ⟨h1, by simp only [Th.dp]; omega, Nat.le_trans h3 (Nat.pow_le_pow_right (by decide) (by omega))⟩
  | .n2 w x y, b, d + 1, h => by
    have q : (∃ c e, x.gr c d ∧ y.gr e d) := by cases w <;> exact ⟨_, _, h.2.1, h.2.2⟩
    obtain ⟨c, e, hx, hy⟩ := q
    obtain ⟨h1, h2, h3⟩ := ok_bounds x _ d hx
    obtain ⟨k1, k2, k3⟩ := ok_bounds y _ d hy
    cases d with
    | zero => cases x <;> exact hx.elim
    | succ d =>
      simp only [Nat.add_sub_cancel] at *
      rw [Nat.pow_succ]
      exact ⟨⟨h1, k1⟩, by simp only [Th.dp]; omega, by simp only [Th.nv]; omega⟩
  | .n3 w x y z, b, d + 1, h => by
    have q : (∃ c e f, x.gr c d ∧ y.gr e d ∧ z.gr f d) := by cases w <;> exact ⟨_, _, _, h.2.1, h.2.2.1, h.2.2.2⟩
    obtain ⟨c, e, f, hx, hy, hz⟩ := q
    obtain ⟨h1, h2, h3⟩ := ok_bounds x _ d hx
    obtain ⟨k1, k2, k3⟩ := ok_bounds y _ d hy
    obtain ⟨l1, l2, l3⟩ := ok_bounds z _ d hz
    cases d with
    | zero => cases x <;> exact hx.elim
    | succ d =>
      simp only [Nat.add_sub_cancel] at *
      rw [Nat.pow_succ]
      exact ⟨⟨h1, k1, l1⟩, by simp only [Th.dp]; omega, by simp only [Th.nv]; omega⟩
  | .rc x y z u, b, d + 1, h => by
    obtain ⟨_, hx, hy, hz, hu⟩ := h
    obtain ⟨h1, h2, h3⟩ := ok_bounds x _ d hx
    obtain ⟨k1, k2, k3⟩ := ok_bounds y _ d hy
    obtain ⟨l1, l2, l3⟩ := ok_bounds z _ d hz
    obtain ⟨m1, m2, m3⟩ := ok_bounds u _ d hu
    cases d with
    | zero => cases x <;> exact hx.elim
    | succ d =>
      simp only [Nat.add_sub_cancel] at *
      rw [Nat.pow_succ]
      exact ⟨⟨h1, k1, l1, m1⟩, by simp only [Th.dp]; omega, by simp only [Th.nv]; omega⟩
end Kp

set_option Elab.async false
set_option linter.all false
set_option maxRecDepth 100000
set_option maxHeartbeats 8000000
set_option autoImplicit false
/-! S70: any data looked at by its shape, two ways. -/
namespace Kp
open PySem PySem.Spec PyProof.Rows L2
/-- tame data of so much depth -/
def Tm : Nat → P → Prop
  | 0, _ => False
  | d + 1, .tuple xs => xs.length ≤ 20 ∧ ∀ x ∈ xs, Tm d x
  | _ + 1, .int _ => True
  | _ + 1, .str s => s.length ≤ 100 ∧ PyData.strOk s = true
  | _ + 1, .bool _ => True
  | _ + 1, .none => True
  | _ + 1, _ => False
def shO (w : Str) : Option Str := (words.find? fun q => decide (q.1 = w)).map (·.2)
def isKw (w : Str) : Bool := inT [.str "nat", .str "none", .str "all", .str "some", .str "same"] (.str w)
def abL : Str := "abcdefghijklmnopqrstuvwxyz"
def numOk : P → Bool
  | .int i => decide (0 ≤ i) && decide (i ≤ 99)
  | _ => false
def namOk : P → Bool
  | .str s => decide (1 ≤ s.length) && decide (s.length ≤ 12) && (s.cps.toList.all fun c => inS ⟨#[c]⟩ abL) && (shO s).isNone
  | _ => false
def cN : Nat := 110
def cW : Nat := 119
def cK : Nat := 107
/-- a thing's parts by its shape; left: whether too many are told ahead -/
def knL (f : Bool → P → Nat) : List Nat → List P → Nat → Nat
  | c :: cs, p :: ps, t => if c = cN then (if numOk p then (if 600 < t then 0 else knL f cs ps t) else 0) else if c = cW then (if namOk p then (if 600 < t then 0 else knL f cs ps t) else 0) else
    let m := f (decide (c = cK)) p
    if m = 0 then 0 else if 600 < t + m then 0 else knL f cs ps (t + m)
  | [], _, t => t
  | _ :: _, [], _ => 0
def kn : Nat → Bool → P → Nat
  | l + 1, k, .tuple (.str w :: ps) => match shO w with
    | none => 0
    | some sh => if ps.length = sh.length then (if isKw w = k then knL (kn l) sh.cps.toList ps 1 else 0) else 0
  | _, _, _ => 0
def rtL (f : Bool → P → Nat) : List Nat → List P → Nat → Nat
  | c :: cs, p :: ps, t => if c = cN then (if numOk p then rtL f cs ps t else 0) else if c = cW then (if namOk p then rtL f cs ps t else 0) else
    let m := f (decide (c = cK)) p
    if m = 0 then 0 else rtL f cs ps (t + m)
  | [], _, t => t
  | _ :: _, [], _ => 0
def rt : Nat → Bool → P → Nat
  | d + 1, k, .tuple (.str w :: ps) => match shO w with
    | none => 0
    | some sh => if ps.length = sh.length then (if isKw w = k then rtL (rt d) sh.cps.toList ps 1 else 0) else 0
  | _, _, _ => 0
def mxN (l : List Nat) : Nat := l.foldl max 0
def dq : Nat → P → Nat
  | d + 1, .tuple xs => 1 + mxN ((xs.drop 1).map (dq d))
  | _, _ => 0
theorem mxN_le {l : List Nat} {m : Nat} : mxN l ≤ m ↔ ∀ x ∈ l, x ≤ m := by
  have : ∀ (l : List Nat) (a : Nat), l.foldl max a ≤ m ↔ a ≤ m ∧ ∀ x ∈ l, x ≤ m := by
    intro l
    induction l with
    | nil => intro a; simp
    | cons b l ih => intro a; rw [List.foldl_cons, ih, Nat.max_le]; simp [and_assoc]
  unfold mxN
  rw [this]
  simp
theorem num_dq {d : Nat} {p : P} (h : numOk p = true) : dq d p = 0 := by
  cases p with
  | int i => cases d <;> rfl
  | _ => cases h
theorem nam_dq {d : Nat} {p : P} (h : namOk p = true) : dq d p = 0 := by
  cases p with
  | str i => cases d <;> rfl
  | _ => cases h
theorem kn_1 {f : Bool → P → Nat} {c : Nat} {cs : List Nat} {p : P} {ps : List P} {t : Nat} (h : c = cN) (h2 : numOk p = true) (h3 : ¬ 600 < t) : knL f (c :: cs) (p :: ps) t = knL f cs ps t := by
  rw [knL, if_pos h, if_pos h2, if_neg h3]
theorem kn_2 {f : Bool → P → Nat} {c : Nat} {cs : List Nat} {p : P} {ps : List P} {t : Nat} (h : c = cN) (h2 : ¬ numOk p = true) : knL f (c :: cs) (p :: ps) t = 0 := by
  rw [knL, if_pos h, if_neg h2]
theorem kn_3 {f : Bool → P → Nat} {c : Nat} {cs : List Nat} {p : P} {ps : List P} {t : Nat} (h : ¬ c = cN) (h1 : c = cW) (h2 : namOk p = true) (h3 : ¬ 600 < t) : knL f (c :: cs) (p :: ps) t = knL f cs ps t := by
  rw [knL, if_neg h, if_pos h1, if_pos h2, if_neg h3]
theorem kn_4 {f : Bool → P → Nat} {c : Nat} {cs : List Nat} {p : P} {ps : List P} {t : Nat} (h : ¬ c = cN) (h1 : c = cW) (h2 : ¬ namOk p = true) : knL f (c :: cs) (p :: ps) t = 0 := by
  rw [knL, if_neg h, if_pos h1, if_neg h2]
theorem kn_5 {f : Bool → P → Nat} {c : Nat} {cs : List Nat} {p : P} {ps : List P} {t : Nat} (h : ¬ c = cN) (h1 : ¬ c = cW) (h2 : f (decide (c = cK)) p = 0) : knL f (c :: cs) (p :: ps) t = 0 := by
  rw [knL, if_neg h, if_neg h1]; exact if_pos h2
theorem kn_6 {f : Bool → P → Nat} {c : Nat} {cs : List Nat} {p : P} {ps : List P} {t : Nat} (h : ¬ c = cN) (h1 : ¬ c = cW) (h2 : ¬ f (decide (c = cK)) p = 0) (h3 : 600 < t + f (decide (c = cK)) p) : knL f (c :: cs) (p :: ps) t = 0 := by
  rw [knL, if_neg h, if_neg h1]; exact (if_neg h2).trans (if_pos h3)
theorem kn_7 {f : Bool → P → Nat} {c : Nat} {cs : List Nat} {p : P} {ps : List P} {t : Nat} (h : ¬ c = cN) (h1 : ¬ c = cW) (h2 : ¬ f (decide (c = cK)) p = 0) (h3 : ¬ 600 < t + f (decide (c = cK)) p) : knL f (c :: cs) (p :: ps) t = knL f cs ps (t + f (decide (c = cK)) p) := by
  rw [knL, if_neg h, if_neg h1]; exact (if_neg h2).trans (if_neg h3)
theorem rt_1 {f : Bool → P → Nat} {c : Nat} {cs : List Nat} {p : P} {ps : List P} {t : Nat} (h : c = cN) (h2 : numOk p = true) : rtL f (c :: cs) (p :: ps) t = rtL f cs ps t := by
  rw [rtL, if_pos h, if_pos h2]
theorem rt_2 {f : Bool → P → Nat} {c : Nat} {cs : List Nat} {p : P} {ps : List P} {t : Nat} (h : c = cN) (h2 : ¬ numOk p = true) : rtL f (c :: cs) (p :: ps) t = 0 := by
  rw [rtL, if_pos h, if_neg h2]
theorem rt_3 {f : Bool → P → Nat} {c : Nat} {cs : List Nat} {p : P} {ps : List P} {t : Nat} (h : ¬ c = cN) (h1 : c = cW) (h2 : namOk p = true) : rtL f (c :: cs) (p :: ps) t = rtL f cs ps t := by
  rw [rtL, if_neg h, if_pos h1, if_pos h2]
theorem rt_4 {f : Bool → P → Nat} {c : Nat} {cs : List Nat} {p : P} {ps : List P} {t : Nat} (h : ¬ c = cN) (h1 : c = cW) (h2 : ¬ namOk p = true) : rtL f (c :: cs) (p :: ps) t = 0 := by
  rw [rtL, if_neg h, if_pos h1, if_neg h2]
theorem rt_5 {f : Bool → P → Nat} {c : Nat} {cs : List Nat} {p : P} {ps : List P} {t : Nat} (h : ¬ c = cN) (h1 : ¬ c = cW) (h2 : f (decide (c = cK)) p = 0) : rtL f (c :: cs) (p :: ps) t = 0 := by
  rw [rtL, if_neg h, if_neg h1]; exact if_pos h2
theorem rt_6 {f : Bool → P → Nat} {c : Nat} {cs : List Nat} {p : P} {ps : List P} {t : Nat} (h : ¬ c = cN) (h1 : ¬ c = cW) (h2 : ¬ f (decide (c = cK)) p = 0) : rtL f (c :: cs) (p :: ps) t = rtL f cs ps (t + f (decide (c = cK)) p) := by
  rw [rtL, if_neg h, if_neg h1]; exact if_neg h2
theorem knL_rtL {f g : Bool → P → Nat} {l d : Nat} (h : ∀ k p, f k p ≠ 0 → g k p = f k p ∧ dq d p ≤ l) : ∀ (cs : List Nat) (ps : List P) (t : Nat), cs.length = ps.length → t ≤ 600 → knL f cs ps t ≠ 0 → rtL g cs ps t = knL f cs ps t ∧ knL f cs ps t ≤ 600 ∧ ∀ p ∈ ps, dq d p ≤ l
  | [], [], t, _, ht, _ => ⟨rfl, ht, fun p hp => absurd hp List.not_mem_nil⟩
  | [], p :: ps, t, hl, _, _ => by cases hl
  | c :: cs, [], t, hl, _, _ => by cases hl
  | c :: cs, p :: ps, t, hl, ht, hn => by
    have hl' : cs.length = ps.length := Nat.succ.inj hl
    by_cases c1 : c = cN
    · by_cases c2 : numOk p = true
      · rw [kn_1 c1 c2 (by omega)] at hn ⊢
        obtain ⟨a, b, e⟩ := knL_rtL h cs ps t hl' ht hn
        rw [rt_1 c1 c2]
        exact ⟨a, b, fun q hq => by
          rcases List.mem_cons.mp hq with rfl | hq
          · rw [num_dq c2]; omega
          · exact e q hq⟩
      · exact absurd (kn_2 c1 c2) hn
    · by_cases c3 : c = cW
      · by_cases c2 : namOk p = true
        · rw [kn_3 c1 c3 c2 (by omega)] at hn ⊢
          obtain ⟨a, b, e⟩ := knL_rtL h cs ps t hl' ht hn
          rw [rt_3 c1 c3 c2]
          exact ⟨a, b, fun q hq => by
            rcases List.mem_cons.mp hq with rfl | hq
            · rw [nam_dq c2]; omega
            · exact e q hq⟩
        · exact absurd (kn_4 c1 c3 c2) hn
      · by_cases c4 : f (decide (c = cK)) p = 0
        · exact absurd (kn_5 c1 c3 c4) hn
        · obtain ⟨g1, g2⟩ := h _ _ c4
          by_cases c5 : 600 < t + f (decide (c = cK)) p
          · exact absurd (kn_6 c1 c3 c4 c5) hn
          · rw [kn_7 c1 c3 c4 c5] at hn ⊢
            obtain ⟨a, b, e⟩ := knL_rtL h cs ps _ hl' (by omega) hn
            rw [rt_6 c1 c3 (by rw [g1]; exact c4), g1]
            exact ⟨a, b, fun q hq => by
              rcases List.mem_cons.mp hq with rfl | hq
              · exact g2
              · exact e q hq⟩
theorem rtL_ge {g : Bool → P → Nat} : ∀ (cs : List Nat) (ps : List P) (t : Nat), rtL g cs ps t ≠ 0 → t ≤ rtL g cs ps t
  | [], ps, t, _ => by cases ps <;> exact Nat.le_refl _
  | c :: cs, [], t, h => absurd rfl h
  | c :: cs, p :: ps, t, h => by
    by_cases c1 : c = cN
    · by_cases c2 : numOk p = true
      · rw [rt_1 c1 c2] at h ⊢; exact rtL_ge cs ps t h
      · exact absurd (rt_2 c1 c2) h
    · by_cases c3 : c = cW
      · by_cases c2 : namOk p = true
        · rw [rt_3 c1 c3 c2] at h ⊢; exact rtL_ge cs ps t h
        · exact absurd (rt_4 c1 c3 c2) h
      · by_cases c4 : g (decide (c = cK)) p = 0
        · exact absurd (rt_5 c1 c3 c4) h
        · rw [rt_6 c1 c3 c4] at h ⊢
          have := rtL_ge cs ps _ h
          omega
theorem rtL_knL {f g : Bool → P → Nat} {l d : Nat} (h : ∀ k p, g k p ≠ 0 → g k p ≤ 600 → dq d p ≤ l → f k p = g k p) : ∀ (cs : List Nat) (ps : List P) (t : Nat), 1 ≤ t → rtL g cs ps t ≠ 0 → rtL g cs ps t ≤ 600 → (∀ p ∈ ps, dq d p ≤ l) → knL f cs ps t = rtL g cs ps t
  | [], ps, t, _, _, _, _ => by cases ps <;> rfl
  | c :: cs, [], t, _, hn, _, _ => absurd rfl hn
  | c :: cs, p :: ps, t, ht, hn, hm, hd => by
    have hd' : ∀ p ∈ ps, dq d p ≤ l := fun q hq => hd q (List.mem_cons_of_mem _ hq)
    have ge := rtL_ge (g := g) (c :: cs) (p :: ps) t hn
    by_cases c1 : c = cN
    · by_cases c2 : numOk p = true
      · rw [kn_1 c1 c2 (by omega)]
        rw [rt_1 c1 c2] at hn hm ⊢
        exact rtL_knL h cs ps t ht hn hm hd'
      · exact absurd (rt_2 c1 c2) hn
    · by_cases c3 : c = cW
      · by_cases c2 : namOk p = true
        · rw [kn_3 c1 c3 c2 (by omega)]
          rw [rt_3 c1 c3 c2] at hn hm ⊢
          exact rtL_knL h cs ps t ht hn hm hd'
        · exact absurd (rt_4 c1 c3 c2) hn
      · by_cases c4 : g (decide (c = cK)) p = 0
        · exact absurd (rt_5 c1 c3 c4) hn
        · rw [rt_6 c1 c3 c4] at hn hm ⊢
          have g2 := rtL_ge cs ps _ hn
          have e := h _ _ c4 (by omega) (hd p List.mem_cons_self)
          rw [kn_7 c1 c3 (by rw [e]; exact c4) (by rw [e]; omega), e]
          exact rtL_knL h cs ps _ (by omega) hn hm hd'
theorem kn_rt : ∀ (l d : Nat) (k : Bool) (x : P), l ≤ d → kn l k x ≠ 0 → rt d k x = kn l k x ∧ kn l k x ≤ 600 ∧ dq d x ≤ l
  | 0, d, k, x, _, h => by cases x <;> exact absurd rfl h
  | l + 1, 0, k, x, hd, h => by omega
  | l + 1, d + 1, k, x, hd, h => by
    match x, h with
    | .tuple (.str w :: ps), h =>
      unfold kn at h ⊢
      unfold rt
      try dsimp only
      cases q : shO w with
      | none => rw [q] at h; exact absurd rfl h
      | some sh =>
        rw [q] at h
        dsimp only at h ⊢
        by_cases c1 : ps.length = sh.length
        · rw [if_pos c1] at h ⊢
          rw [if_pos c1]
          by_cases c2 : isKw w = k
          · rw [if_pos c2] at h ⊢
            rw [if_pos c2]
            obtain ⟨a, b, e⟩ := knL_rtL (f := kn l) (g := rt d) (l := l) (d := d) (fun k p hp => by
              obtain ⟨a, b, e⟩ := kn_rt l d k p (by omega) hp
              exact ⟨a, e⟩) sh.cps.toList ps 1 (by rw [c1]; rfl) (by decide) h
            refine ⟨a, b, ?_⟩
            show 1 + mxN (ps.map (dq d)) ≤ l + 1
            have := (mxN_le (l := ps.map (dq d)) (m := l)).mpr (fun x hx => by obtain ⟨p, hp, rfl⟩ := List.mem_map.mp hx; exact e p hp)
            omega
          · rw [if_neg c2] at h; exact absurd rfl h
        · rw [if_neg c1] at h; exact absurd rfl h
theorem rt_kn : ∀ (l d : Nat) (k : Bool) (x : P), rt d k x ≠ 0 → rt d k x ≤ 600 → dq d x ≤ l → kn l k x = rt d k x
  | l, 0, k, x, h, _, _ => by cases x <;> exact absurd rfl h
  | l, d + 1, k, x, h, hm, hq => by
    match x, h, hm, hq with
    | .tuple (.str w :: ps), h, hm, hq =>
      have hq' : 1 + mxN (ps.map (dq d)) ≤ l := hq
      obtain ⟨l, rfl⟩ : ∃ l', l = l' + 1 := ⟨l - 1, by omega⟩
      have e : ∀ p ∈ ps, dq d p ≤ l := fun p hp => (mxN_le.mp (by omega : mxN (ps.map (dq d)) ≤ l)) _ (List.mem_map_of_mem hp)
      unfold rt at h hm ⊢
      unfold kn
      try dsimp only at h hm ⊢
      cases q : shO w with
      | none => simp [q] at h
      | some sh =>
        rw [q] at h hm
        dsimp only at h hm ⊢
        by_cases c1 : ps.length = sh.length
        · rw [if_pos c1] at h hm ⊢
          rw [if_pos c1]
          by_cases c2 : isKw w = k
          · rw [if_pos c2] at h hm ⊢
            rw [if_pos c2]
            exact rtL_knL (f := kn l) (g := rt d) (l := l) (d := d) (fun k p h1 h2 h3 => rt_kn l d k p h1 h2 h3) _ _ 1 (by decide) h hm e
          · rw [if_neg c2] at h; exact absurd rfl h
        · rw [if_neg c1] at h; exact absurd rfl h
theorem kn_iff {l d : Nat} {k : Bool} {x : P} (h : l ≤ d) : decide (0 < (kn l k x : Int)) = (decide ((dq d x : Int) ≤ l) && (decide (0 < (rt d k x : Int)) && decide ((rt d k x : Int) ≤ 600))) := by
  rw [Bool.eq_iff_iff]
  simp only [Bool.and_eq_true, decide_eq_true_eq]
  constructor
  · intro z
    obtain ⟨a, b, e⟩ := kn_rt l d k x h (by omega)
    omega
  · intro z
    have := rt_kn l d k x (by omega) (by omega) (by omega)
    omega
end Kp

set_option Elab.async false
set_option linter.all false
set_option maxRecDepth 100000
set_option maxHeartbeats 8000000
set_option autoImplicit false
/-! S71: the program's looking at shapes. -/
namespace Kp
open PySem PySem.Spec PyProof.Rows L2
def shP (w : Str) : P := match shO w with
  | some s => .str s
  | none => .none
theorem shO_cases (w : Str) : (∃ q ∈ words, q.1 = w ∧ shO w = some q.2) ∨ (shO w = none ∧ ∀ q ∈ words, ¬ q.1 = w) := by
  unfold shO
  cases h : words.find? fun q => decide (q.1 = w) with
  | none =>
    refine .inr ⟨rfl, fun q hq e => ?_⟩
    have := List.find?_eq_none.mp h q hq
    simp at this
    exact this e
  | some q =>
    have h1 := List.find?_some h
    exact .inl ⟨q, List.mem_of_find?_eq_some h, of_decide_eq_true h1, rfl⟩
def SShA (c : Cf) : Prop := ∀ (w : Str) (S : Sto), c [.p (.str w)] S = .ok (.p (shP w)) S
section
variable {cl : Cl} {ksh kkw knu knm kkn d l : Nat}
theorem shapeof_ok : SShA (runD cl 1 1 m_shape_of) := by
  intro w S
  unfold m_shape_of shP
  rcases shO_cases w with ⟨q, hq, rfl, e⟩ | ⟨e, hn⟩
  · rw [e]
    unfold words at hq
    simp only [List.mem_cons, List.not_mem_nil, or_false] at hq
    rcases hq with rfl | rfl | rfl | rfl | rfl | rfl | rfl | rfl | rfl | rfl | rfl | rfl | rfl | rfl | rfl | rfl | rfl | rfl <;> simp [runD]
  · rw [e]
    unfold words at hn
    simp only [List.mem_cons, List.not_mem_nil, or_false, forall_eq_or_imp, forall_eq] at hn
    obtain ⟨n1, n2, n3, n4, n5, n6, n7, n8, n9, n10, n11, n12, n13, n14, n15, n16, n17, n18⟩ := hn
    have m8 : ¬ w = "app" := fun z => n8 z.symm
    have m10 : ¬ w = "rec" := fun z => n10 z.symm
    have m17 : ¬ w = "var" := fun z => n17 z.symm
    have m18 : ¬ w = "name" := fun z => n18 z.symm
    simp [runD, n1, n2, n3, n4, n5, n6, n7, n9, n11, n12, n13, n14, n15, n16, m8, m10, m17, m18]
def SKw (c : Cf) : Prop := ∀ (w : Str) (S : Sto), c [.p (.str w)] S = .ok (.p (.bool (isKw w))) S
theorem kw_ok : SKw (runD cl 1 1 m_is_kind_word) := by
  intro w S
  unfold m_is_kind_word isKw
  simp [runD, -inT_cons, -inT_nil]
def SNumB (c : Cf) (d : Nat) : Prop := ∀ (x : P) (S : Sto), Tm d x → c [.p x] S = .ok (.p (.bool (numOk x))) S
theorem num10_ok : SNumB (runD cl 1 1 m_is_number) d := by
  intro x S h
  unfold m_is_number
  cases x with
  | int i =>
    by_cases c1 : 0 ≤ i
    · by_cases c2 : i ≤ 99
      · simp [runD, numOk, c1, c2]
      · simp [runD, numOk, c1, c2]
    · simp [runD, numOk, c1]
  | str s => simp [runD, numOk]
  | bool b => simp [runD, numOk]
  | none => simp [runD, numOk]
  | tuple xs => simp [runD, numOk]
  | _ => cases d <;> exact h.elim
theorem bls_map : ∀ bs : List Bool, blsP (bs.map PyData.bool) = some bs
  | [] => rfl
  | b :: bs => by simp [blsP, bls_map bs]
theorem all_row {bs : List Bool} {S : Sto} {l : Nat} (h : S[l]? = some (.lst (bs.map .bool))) : biV .all [.loc l] S = .ok (.p (.bool (bs.all id))) S := by
  have e := bls_map bs
  unfold biV
  dsimp only
  rw [h]
  dsimp only
  rw [e]
  rfl
@[simp] theorem isi_sb {b : Bool} {S : Sto} : isiV .str (.p (.bool b)) S = .ok false S := id rfl
def SNamB (c : Cf) (d : Nat) : Prop := ∀ (x : P) (S : Sto), Tm d x → c [.p x] S = .ok (.p (.bool (namOk x))) S
theorem signs_comp {s : Str} {S : Sto} (h : s.length ≤ 100) : ev cl (.comp 1 (.val (.v 0)) .non (.cmp .inn (.v 1) (.c (.str "abcdefghijklmnopqrstuvwxyz")))) [some (.p (.str s)), none] S = .ok (.loc S.length) (S ++ [.lst ((s.cps.toList.map fun c => inS ⟨#[c]⟩ abL).map .bool)]) := by
  have cc := compL_ok (el := ev cl (.cmp .inn (.v 1) (.c (.str "abcdefghijklmnopqrstuvwxyz")))) (tst := evC cl .non) (i := 1) (w := []) (S0 := S) (en := [some (.p (.str s)), none])
    (fun (c : Nat) => PV.p (.str ⟨#[c]⟩)) (fun _ => true) (fun (c : Nat) => PyData.bool (inS ⟨#[c]⟩ abL)) (fun q hq => absurd hq List.not_mem_nil) (fun q hq => absurd hq List.not_mem_nil) s.cps.toList [] (fun x hx acc => ⟨by simp, fun _ => by simp [abL]⟩) (by simp; show s.length ≤ _; omega)
  have ff : s.cps.toList.filter (fun _ => true) = s.cps.toList := List.filter_eq_self.mpr fun _ _ => rfl
  rw [ff] at cc
  rw [ev_comp]
  have e1 : evI cl (.val (.v 0)) [some (.p (.str s)), none] S = .ok (s.cps.toList.map fun c => PV.p (.str ⟨#[c]⟩), []) S := by simp [chs]
  rw [e1, bind_ok, kComp_]
  dsimp only
  rw [cc, bind_ok, kCmpD_, List.nil_append, List.map_map]
  rfl
theorem nam10_ok (hs : SShA (cl ksh)) : SNamB (runD cl 1 2 (m_is_name ksh)) d := by
  intro x S h
  unfold m_is_name
  cases x with
  | str s =>
    have hl : s.length ≤ 100 := by cases d with
      | zero => exact h.elim
      | succ d => exact h.1
    have h6 : s.length ≤ 1000000 := by omega
    by_cases c1 : (s.length : Int) < 1
    · have c1' : ¬ 1 ≤ s.length := by omega
      simp [runD, namOk, h6, c1, c1']
    · by_cases c2 : (12 : Int) < (s.length : Int)
      · have c2' : ¬ s.length ≤ 12 := by omega
        simp [runD, namOk, h6, c1, c2, c2']
      · have c1' : 1 ≤ s.length := by omega
        have c2' : s.length ≤ 12 := by omega
        have cc := signs_comp (cl := cl) (S := S) hl
        have ar := all_row (S := S ++ [.lst ((s.cps.toList.map fun c => inS ⟨#[c]⟩ abL).map .bool)]) (l := S.length) (bs := s.cps.toList.map fun c => inS ⟨#[c]⟩ abL) (by simp)
        have ea : (s.cps.toList.map fun c => inS ⟨#[c]⟩ abL).all id = s.cps.toList.all fun c => inS ⟨#[c]⟩ abL := by rw [List.all_map]; rfl
        have e3 := hs s (S ++ [.lst ((s.cps.toList.map fun c => inS ⟨#[c]⟩ abL).map .bool)])
        rw [ea] at ar
        generalize (s.cps.toList.map fun c => inS ⟨#[c]⟩ abL).map PyData.bool = bl at *
        cases q : s.cps.toList.all fun c => inS ⟨#[c]⟩ abL with
        | false =>
          rw [q] at ar
          simp [runD, namOk, h6, c1, c2, c1', c2', -ev_comp, cc, ar, q, -List.all_eq_true, -List.all_eq_false]
        | true =>
          rw [q] at ar
          unfold shP at e3
          cases q2 : shO s with
          | none => rw [q2] at e3; simp [runD, namOk, h6, c1, c2, c1', c2', -ev_comp, cc, ar, e3, q, q2, -List.all_eq_true]
          | some z => rw [q2] at e3; simp [runD, namOk, h6, c1, c2, c1', c2', -ev_comp, cc, ar, e3, q, q2, -List.all_eq_true]
  | int s => simp [runD, namOk]
  | bool b => simp [runD, namOk]
  | none => simp [runD, namOk]
  | tuple xs => simp [runD, namOk]
  | _ => cases d <;> exact h.elim
end
end Kp

set_option Elab.async false
set_option linter.all false
set_option maxRecDepth 100000
set_option maxHeartbeats 8000000
set_option autoImplicit false
/-! S72: knots counted, the program's way. -/
namespace Kp
open PySem PySem.Spec PyProof.Rows L2
def wk (k : Bool) : Str := if k then "k" else "t"
def SKn (c : Cf) (d : Nat) : Prop := ∀ (x : P) (k : Bool) (l : Nat) (S : Sto), Tm d x → l ≤ 1000 → c [.p x, .p (.str (wk k)), .p (.int (l : Int))] S = .ok (.p (.int (kn l k x : Int))) S
/-- the signs that shapes have -/
theorem sh_codes {w s : Str} (h : shO w = some s) : ∀ c ∈ s.cps.toList, c = 110 ∨ c = 119 ∨ c = 107 ∨ c = 116 := by
  rcases shO_cases w with ⟨q, hq, rfl, e⟩ | ⟨e, _⟩
  · rw [e] at h
    obtain rfl := Option.some.inj h
    have : words.all (fun q => q.2.cps.toList.all fun c => decide (c = 110 ∨ c = 119 ∨ c = 107 ∨ c = 116)) = true := by decide +kernel
    have := List.all_eq_true.mp (List.all_eq_true.mp this q hq)
    exact fun c hc => of_decide_eq_true (this c hc)
  · rw [e] at h; cases h
theorem sh_len {w s : Str} (h : shO w = some s) : s.length ≤ 4 := by
  rcases shO_cases w with ⟨q, hq, rfl, e⟩ | ⟨e, _⟩
  · rw [e] at h
    obtain rfl := Option.some.inj h
    have : words.all (fun q => decide (q.2.length ≤ 4)) = true := by decide +kernel
    exact of_decide_eq_true (List.all_eq_true.mp this q hq)
  · rw [e] at h; cases h
theorem ch_n : (⟨#[110]⟩ : Str) = "n" := by decide +kernel
theorem ch_w : (⟨#[119]⟩ : Str) = "w" := by decide +kernel
theorem ch_k : (⟨#[107]⟩ : Str) = "k" := by decide +kernel
theorem ch_t : (⟨#[116]⟩ : Str) = "t" := by decide +kernel
section
variable {cl : Cl} {ksh kkw knu knm kkn d l : Nat}
def knB (kkn knu knm : Nat) : Sms := (.cons (.asg (.nm 6) (.ix (.v 0) (.bin .add (.v 5) (.c (.int 1)))))
    (.cons (.asg (.nm 7) (.c (.int 0)))
    (.cons (.ift (.or' (.and' (.cmp .eq (.ix (.v 3) (.v 5)) (.c (.str "n"))) (.not' (.call knu (.cons (.v 6) .nil)))) (.and' (.cmp .eq (.ix (.v 3) (.v 5)) (.c (.str "w"))) (.not' (.call knm (.cons (.v 6) .nil))))) (.cons (.ret (.c (.int 0)))
    .nil) .nil)
    (.cons (.ift (.cmp .inn (.ix (.v 3) (.v 5)) (.c (.str "kt"))) (.cons (.asg (.nm 7) (.call kkn (.cons (.v 6) (.cons (.ix (.v 3) (.v 5)) (.cons (.bin .sub (.v 2) (.c (.int 1))) .nil)))))
    (.cons (.ift (.cmp .eq (.v 7) (.c (.int 0))) (.cons (.ret (.c (.int 0)))
    .nil) .nil)
    .nil)) .nil)
    (.cons (.asg (.nm 4) (.bin .add (.v 4) (.v 7)))
    (.cons (.ift (.cmp .gt (.v 4) (.c (.int 600))) (.cons (.ret (.c (.int 0)))
    .nil) .nil)
    .nil))))))
theorem lk1 : ("k" : Str).length = 1 := by decide +kernel
theorem lt1 : ("t" : Str).length = 1 := by decide +kernel
theorem ln1 : ("n" : Str).length = 1 := by decide +kernel
theorem lw1 : ("w" : Str).length = 1 := by decide +kernel
theorem wk_k (k : Bool) : decide (wk k = "k") = k := by cases k <;> decide +kernel
theorem in_n : inS "n" "kt" = false := by decide +kernel
theorem in_w : inS "w" "kt" = false := by decide +kernel
theorem in_k : inS "k" "kt" = true := by decide +kernel
theorem in_t : inS "t" "kt" = true := by decide +kernel
theorem in_kS {S : Sto} : inV' (.p (.str "k")) (.p (.str "kt")) S = .ok true S := by rw [in_str lk1, in_k]
theorem in_tS {S : Sto} : inV' (.p (.str "t")) (.p (.str "kt")) S = .ok true S := by rw [in_str lt1, in_t]
theorem kn_loop {w sh : Str} {ps : List P} {want : Option PV} {S : Sto} (hnu : SNumB (cl knu) d) (hnm : SNamB (cl knm) d) (ih : SKn (cl kkn) d) (hl : l ≤ 999) (hp : ∀ p ∈ ps, Tm d p) (hsl : sh.length ≤ 4) : ∀ (cs : List Nat) (qs : List P) (j : Nat) (t : Nat) (v5 v6 v7 : Option PV), 1 ≤ t → sh.cps.toList.drop j = cs → ps.drop j = qs → cs.length = qs.length → (∀ c ∈ cs, c = 110 ∨ c = 119 ∨ c = 107 ∨ c = 116) →
    (knL (kn l) cs qs t = 0 ∧ forL (.nm 5) [] (exss cl (knB kkn knu knm)) ((List.range' j cs.length).map fun (x : Nat) => PV.p (.int (0 + (x : Int)))) [some (.p (.tuple (.str w :: ps))), want, some (.p (.int ((l + 1 : Nat) : Int))), some (.p (.str sh)), some (.p (.int (t : Int))), v5, v6, v7] S = .rt (.p (.int 0)) S) ∨
    (∃ v5' v6' v7', forL (.nm 5) [] (exss cl (knB kkn knu knm)) ((List.range' j cs.length).map fun (x : Nat) => PV.p (.int (0 + (x : Int)))) [some (.p (.tuple (.str w :: ps))), want, some (.p (.int ((l + 1 : Nat) : Int))), some (.p (.str sh)), some (.p (.int (t : Int))), v5, v6, v7] S = .nx [some (.p (.tuple (.str w :: ps))), want, some (.p (.int ((l + 1 : Nat) : Int))), some (.p (.str sh)), some (.p (.int (knL (kn l) cs qs t : Int))), v5', v6', v7'] S)
  | [], qs, j, t, v5, v6, v7, _, _, _, _, _ => .inr ⟨v5, v6, v7, by simp [knL]⟩
  | c :: cs, [], j, t, v5, v6, v7, _, _, _, hle, _ => by cases hle
  | c :: cs, q :: qs, j, t, v5, v6, v7, ht, h1, h2, hle, hc => by
    have hj : sh.cps.toList[j]? = some c := by
      have := congrArg (fun l => l[0]?) h1
      simpa using this
    have hq : ps[j]? = some q := by
      have := congrArg (fun l => l[0]?) h2
      simpa using this
    have h1' : sh.cps.toList.drop (j + 1) = cs := by
      rw [← List.drop_drop, h1]; rfl
    have h2' : ps.drop (j + 1) = qs := by
      rw [← List.drop_drop, h2]; rfl
    have hqm : q ∈ ps := List.mem_of_getElem? hq
    have x1 : ixP (PyData.str w :: ps) ((j : Int) + 1) = some q := by
      have : ((j : Int) + 1) = ((j + 1 : Nat) : Int) := by omega
      rw [this, ix_n, List.getElem?_cons_succ]; exact hq
    have x2 : ixP sh.cps.toList (j : Int) = some c := by rw [ix_n]; exact hj
    have s6 : sh.length ≤ 1000000 := by omega
    have IH := fun t v5 v6 v7 ht => kn_loop (w := w) (want := want) (S := S) hnu hnm ih hl hp hsl cs qs (j + 1) t v5 v6 v7 ht h1' h2' (Nat.succ.inj hle) (fun c' hc' => hc c' (List.mem_cons_of_mem _ hc'))
    have en := hnu q S (hp q hqm)
    have ew := hnm q S (hp q hqm)
    have ek := ih q true l S (hp q hqm) (by omega)
    have et := ih q false l S (hp q hqm) (by omega)
    simp only [wk, if_true, Bool.false_eq_true, if_false] at ek et
    have lm : (l : Int) + 1 - 1 = (l : Int) := by omega
    rw [List.length_cons, List.range'_succ, List.map_cons, for_cons0]
    have c6 : (600 < t) ↔ (600 : Int) < (t : Int) := by omega
    -- one turn that goes on
    have go : ∀ (m : Nat) (r : RS) (u6 u7 : Option PV), knL (kn l) (c :: cs) (q :: qs) t = knL (kn l) cs qs (t + m) → r = forL (.nm 5) [] (exss cl (knB kkn knu knm)) ((List.range' (j + 1) cs.length).map fun (x : Nat) => PV.p (.int (0 + (x : Int)))) [some (.p (.tuple (.str w :: ps))), want, some (.p (.int ((l + 1 : Nat) : Int))), some (.p (.str sh)), some (.p (.int ((t + m : Nat) : Int))), some (.p (.int (j : Int))), u6, u7] S →
        (knL (kn l) (c :: cs) (q :: qs) t = 0 ∧ r = .rt (.p (.int 0)) S) ∨ (∃ v5' v6' v7', r = .nx [some (.p (.tuple (.str w :: ps))), want, some (.p (.int ((l + 1 : Nat) : Int))), some (.p (.str sh)), some (.p (.int (knL (kn l) (c :: cs) (q :: qs) t : Int))), v5', v6', v7'] S) := fun m r u6 u7 e1 e2 => by
      rw [e1, e2]
      rcases IH (t + m) (some (.p (.int (j : Int)))) u6 u7 (by omega) with h | h
      · exact .inl h
      · exact .inr h
    rcases hc c List.mem_cons_self with rfl | rfl | rfl | rfl
    · cases q1 : numOk q with
      | false => exact .inl ⟨kn_2 rfl (by rw [q1]; decide), by unfold knB; simp [x1, x2, s6, ch_n, en, q1]⟩
      | true =>
        by_cases c2 : 600 < t
        · refine .inl ⟨by rw [knL, if_pos (show 110 = cN from rfl), if_pos q1, if_pos c2], ?_⟩
          have := c6.mp c2
          unfold knB
          simp [x1, x2, s6, ch_n, en, q1, ln1, in_n, this]
        · refine go 0 _ (some (.p q)) (some (.p (.int 0))) (kn_1 rfl q1 c2) ?_
          have : ¬ (600 : Int) < (t : Int) := fun z => c2 (c6.mpr z)
          unfold knB
          simp [x1, x2, s6, ch_n, en, q1, ln1, in_n, this]
    · cases q1 : namOk q with
      | false => exact .inl ⟨kn_4 (by decide) rfl (by rw [q1]; decide), by unfold knB; simp [x1, x2, s6, ch_w, ew, q1]⟩
      | true =>
        by_cases c2 : 600 < t
        · refine .inl ⟨by rw [knL, if_neg (by decide), if_pos (show 119 = cW from rfl), if_pos q1, if_pos c2], ?_⟩
          have := c6.mp c2
          unfold knB
          simp [x1, x2, s6, ch_w, ew, q1, lw1, in_w, this]
        · refine go 0 _ (some (.p q)) (some (.p (.int 0))) (kn_3 (by decide) rfl q1 c2) ?_
          have : ¬ (600 : Int) < (t : Int) := fun z => c2 (c6.mpr z)
          unfold knB
          simp [x1, x2, s6, ch_w, ew, q1, lw1, in_w, this]
    · have dk : decide ((107 : Nat) = cK) = true := by decide
      by_cases c3 : kn l true q = 0
      · refine .inl ⟨kn_5 (by decide) (by decide) (by rw [dk]; exact c3), ?_⟩
        have c3' : ((kn l true q : Nat) : Int) = 0 := by omega
        unfold knB
        simp [x1, x2, s6, ch_k, in_kS, in_k, lm, ek, c3]
      · by_cases c2 : 600 < t + kn l true q
        · refine .inl ⟨kn_6 (by decide) (by decide) (by rw [dk]; exact c3) (by rw [dk]; exact c2), ?_⟩
          have : (600 : Int) < (t : Int) + (kn l true q : Int) := by omega
          unfold knB
          simp [x1, x2, s6, ch_k, in_kS, in_k, lm, ek, c3, this]
        · refine go (kn l true q) _ (some (.p q)) (some (.p (.int (kn l true q : Int)))) (by rw [kn_7 (by decide) (by decide) (by rw [dk]; exact c3) (by rw [dk]; exact c2), dk]) ?_
          have : ¬ (600 : Int) < (t : Int) + (kn l true q : Int) := by omega
          unfold knB
          simp [x1, x2, s6, ch_k, in_kS, in_k, lm, ek, c3, this]
    · have dk : decide ((116 : Nat) = cK) = false := by decide
      by_cases c3 : kn l false q = 0
      · refine .inl ⟨kn_5 (by decide) (by decide) (by rw [dk]; exact c3), ?_⟩
        unfold knB
        simp [x1, x2, s6, ch_t, in_tS, in_t, lm, et, c3]
      · by_cases c2 : 600 < t + kn l false q
        · refine .inl ⟨kn_6 (by decide) (by decide) (by rw [dk]; exact c3) (by rw [dk]; exact c2), ?_⟩
          have : (600 : Int) < (t : Int) + (kn l false q : Int) := by omega
          unfold knB
          simp [x1, x2, s6, ch_t, in_tS, in_t, lm, et, c3, this]
        · refine go (kn l false q) _ (some (.p q)) (some (.p (.int (kn l false q : Int)))) (by rw [kn_7 (by decide) (by decide) (by rw [dk]; exact c3) (by rw [dk]; exact c2), dk]) ?_
          have : ¬ (600 : Int) < (t : Int) + (kn l false q : Int) := by omega
          unfold knB
          simp [x1, x2, s6, ch_t, in_tS, in_t, lm, et, c3, this]
theorem kn_ok (hsh : SShA (cl ksh)) (hkw : SKw (cl kkw)) (hnu : SNumB (cl knu) d) (hnm : SNamB (cl knm) d) (ih : SKn (cl kkn) d) : SKn (runD cl 3 8 (m_knots_if kkn knu knm kkw ksh)) (d + 1) := by
  intro x k l S hx hl
  unfold m_knots_if
  cases l with
  | zero => cases x <;> simp [runD, kn]
  | succ l =>
    have l0 : ¬ ((l : Int) + 1 = 0) := by omega
    cases x with
    | int i => simp [runD, kn, l0]
    | str i => simp [runD, kn, l0]
    | bool i => simp [runD, kn, l0]
    | none => simp [runD, kn, l0]
    | tuple xs =>
      cases xs with
      | nil => simp [runD, kn, l0]
      | cons y ps =>
        have ln : ¬ ((ps.length : Int) + 1 = 0) := by omega
        cases y with
        | int i => simp [runD, kn, l0, ln, ixP]
        | bool i => simp [runD, kn, l0, ln, ixP]
        | none => simp [runD, kn, l0, ln, ixP]
        | tuple i => simp [runD, kn, l0, ln, ixP]
        | str w =>
          have e1 := hsh w S
          have e2 := hkw w S
          unfold shP at e1
          cases q : shO w with
          | none =>
            rw [q] at e1
            simp [runD, kn, l0, ln, ixP, e1, q]
          | some sh =>
            rw [q] at e1
            have s4 := sh_len q
            have s6 : sh.length ≤ 1000000 := by omega
            have sn : ¬ ((sh.length : Nat) : Int) + 1 = 0 := by omega
            by_cases c1 : ps.length = sh.length
            · have c1' : ((ps.length : Nat) : Int) + 1 = (sh.length : Int) + 1 := by omega
              by_cases c2 : isKw w = k
              · have lp := kn_loop (cl := cl) (kkn := kkn) (knu := knu) (knm := knm) (w := w) (sh := sh) (ps := ps) (want := some (.p (.str (wk k)))) (S := S) (l := l) hnu hnm ih (by omega) (fun p hp => hx.2 p (List.mem_cons_of_mem _ hp)) s4 sh.cps.toList ps 0 1 none none none (by decide) rfl rfl (by rw [c1]; rfl) (sh_codes q)
                have lc : sh.cps.toList.length = sh.length := rfl
                rw [lc, ← List.range_eq_range'] at lp
                have hb : ((sh.length : Nat) : Int) < 4611686018427387904 := by omega
                have ek : kn (l + 1) k (.tuple (.str w :: ps)) = knL (kn l) sh.cps.toList ps 1 := by
                  rw [kn]; simp only [q]; rw [if_pos c1, if_pos c2]
                rw [ek]
                unfold knB at lp
                rcases lp with ⟨z, lp⟩ | ⟨u5, u6, u7, lp⟩
                · rw [z]
                  simp at lp
                  simp [runD, l0, ln, sn, ixP, e1, s6, c1', e2, wk_k, c2, hb, lp]
                · simp at lp
                  simp [runD, l0, ln, sn, ixP, e1, s6, c1', e2, wk_k, c2, hb, lp]
              · have ek : kn (l + 1) k (.tuple (.str w :: ps)) = 0 := by
                  rw [kn]; simp only [q]; rw [if_pos c1, if_neg c2]
                rw [ek]
                simp [runD, l0, ln, sn, ixP, e1, s6, c1', e2, wk_k, c2]
            · have c1' : ¬ ((ps.length : Nat) : Int) + 1 = (sh.length : Int) + 1 := by omega
              have ek : kn (l + 1) k (.tuple (.str w :: ps)) = 0 := by
                rw [kn]; simp only [q]; rw [if_neg c1]
              rw [ek]
              simp [runD, l0, ln, sn, ixP, e1, s6, c1', e2]
        | _ =>
          have z := hx.2 _ List.mem_cons_self
          cases d <;> exact z.elim
    | _ => exact hx.elim
end
end Kp

set_option Elab.async false
set_option linter.all false
set_option maxRecDepth 100000
set_option maxHeartbeats 8000000
set_option autoImplicit false
/-! S73: the law's own looking at shapes. -/
namespace Kp
open PySem PySem.Spec PyProof.Rows L2
section
variable {cl : Cl} {ksh krt d : Nat}
theorem luK_s {a k : Str} {v : P} {r : List (Key × P)} : luK ((.inr a, v) :: r) (.inr k) = if a = k then some v else luK r (.inr k) := by
  unfold luK
  rw [List.find?_cons]
  by_cases h : a = k
  · subst h; simp
  · have : (Sum.inr a : Key) ≠ Sum.inr k := fun e => h (Sum.inr.inj e)
    simp [h, this]
theorem luK_0 {k : Key} : luK ([] : List (Key × P)) k = none := rfl
theorem shapeA_ok : SShA (runD cl 1 3 m_l_shape) := by
  intro w S
  unfold shP
  rcases shO_cases w with ⟨q, hq, rfl, e⟩ | ⟨e, hn⟩
  · rw [e]
    exact shape_ok S q hq
  · rw [e]
    unfold words at hn
    simp only [List.mem_cons, List.not_mem_nil, or_false, forall_eq_or_imp, forall_eq] at hn
    obtain ⟨n1, n2, n3, n4, n5, n6, n7, n8, n9, n10, n11, n12, n13, n14, n15, n16, n17, n18⟩ := hn
    unfold m_l_shape
    simp [runD, shp1, shp2, shp3, -dctV_cons, luK_s, luK_0, n1, n2, n3, n4, n5, n6, n7, n8, n9, n10, n11, n12, n13, n14, n15, n16, n17, n18]
def SRt (c : Cf) (d : Nat) : Prop := ∀ (x : P) (k : Bool) (S : Sto), Tm d x → c [.p x, .p (.str (wk k))] S = .ok (.p (.int (rt d k x : Int))) S
def rtB (ksh krt : Nat) : Sms := (.cons (.asg (.nm 5) (.ix (.v 0) (.bin .add (.v 4) (.c (.int 1)))))
    (.cons (.ift (.cmp .eq (.ix (.v 2) (.v 4)) (.c (.str "n"))) (.cons (.ift (.or' (.not' (.isi (.v 5) .int)) (.or' (.isi (.v 5) .bool) (.or' (.cmp .lt (.v 5) (.c (.int 0))) (.cmp .gt (.v 5) (.c (.int 99)))))) (.cons (.ret (.c (.int 0)))
    .nil) .nil)
    .nil) (.cons (.ift (.cmp .eq (.ix (.v 2) (.v 4)) (.c (.str "w"))) (.cons (.ift (.or' (.not' (.isi (.v 5) .str)) (.or' (.cmp .lt (.bi .len (.cons (.v 5) .nil)) (.c (.int 1))) (.cmp .gt (.bi .len (.cons (.v 5) .nil)) (.c (.int 12))))) (.cons (.ret (.c (.int 0)))
    .nil) .nil)
    (.cons (.ift (.cmp .ne (.comp 7 (.val (.v 5)) (.one (.cmp .nin (.v 7) (.c (.str "abcdefghijklmnopqrstuvwxyz")))) (.v 7)) (.lst .nil)) (.cons (.ret (.c (.int 0)))
    .nil) .nil)
    (.cons (.ift (.cmp .isn (.call ksh (.cons (.v 5) .nil)) (.c .none)) (.cons (.ret (.c (.int 0)))
    .nil) .nil)
    .nil))) (.cons (.asg (.nm 6) (.call krt (.cons (.v 5) (.cons (.ix (.v 2) (.v 4)) .nil))))
    (.cons (.ift (.cmp .eq (.v 6) (.c (.int 0))) (.cons (.ret (.c (.int 0)))
    .nil) .nil)
    (.cons (.asg (.nm 3) (.bin .add (.v 3) (.v 6)))
    .nil))))
    .nil))
    .nil))
theorem bad_comp {s : Str} {S : Sto} {a0 a1 a2 a3 a4 a6 a7 : Option PV} (h : s.length ≤ 100) : ev cl (.comp 7 (.val (.v 5)) (.one (.cmp .nin (.v 7) (.c (.str "abcdefghijklmnopqrstuvwxyz")))) (.v 7)) [a0, a1, a2, a3, a4, some (.p (.str s)), a6, a7] S = .ok (.loc S.length) (S ++ [.lst ((s.cps.toList.filter fun c => !inS ⟨#[c]⟩ abL).map fun c => .str ⟨#[c]⟩)]) := by
  have cc := compL_ok (el := ev cl (.v 7)) (tst := evC cl (.one (.cmp .nin (.v 7) (.c (.str "abcdefghijklmnopqrstuvwxyz"))))) (i := 7) (w := []) (S0 := S) (en := [a0, a1, a2, a3, a4, some (.p (.str s)), a6, a7])
    (fun (c : Nat) => PV.p (.str ⟨#[c]⟩)) (fun c => !inS ⟨#[c]⟩ abL) (fun (c : Nat) => PyData.str ⟨#[c]⟩) (fun q hq => absurd hq List.not_mem_nil) (fun q hq => absurd hq List.not_mem_nil) s.cps.toList [] (fun x hx acc => ⟨by simp [abL], fun _ => by simp⟩) (by simp; show s.length ≤ _; omega)
  rw [ev_comp]
  have e1 : evI cl (.val (.v 5)) [a0, a1, a2, a3, a4, some (.p (.str s)), a6, a7] S = .ok (s.cps.toList.map fun c => PV.p (.str ⟨#[c]⟩), []) S := by simp [chs]
  rw [e1, bind_ok, kComp_]
  dsimp only
  rw [cc, bind_ok, kCmpD_, List.nil_append]
theorem sh_signs : ∀ {l : List Nat} {s : Str} (hs : PyData.strOk s = true) (h : ∀ c ∈ l, c ∈ s.cps.toList), PyData.canLayAll0 (l.map fun c => PyData.str ⟨#[c]⟩) = true ∧ PyData.depthAll (l.map fun c => PyData.str ⟨#[c]⟩) = 0
  | [], s, hs, h => ⟨rfl, rfl⟩
  | c :: l, s, hs, h => by
    obtain ⟨a, b⟩ := sh_signs (l := l) hs fun c hc => h c (List.mem_cons_of_mem _ hc)
    have h1 : PyData.strOk ⟨#[c]⟩ = true := by
      have := h c List.mem_cons_self
      unfold PyData.strOk at hs ⊢
      rw [← Array.all_toList, List.all_eq_true] at hs
      rw [← Array.all_toList]
      have := hs c this
      simpa using this
    rw [List.map_cons]
    constructor
    · simp only [PyData.canLayAll0, PyData.canLay0, h1, a]; rfl
    · simp only [PyData.depthAll, PyData.depth, b]; rfl
theorem eq_signs {l : List Nat} {s : Str} {S : Sto} (hs : PyData.strOk s = true) (h : ∀ c ∈ l, c ∈ s.cps.toList) : eqC (some (.lst (l.map fun c => PyData.str ⟨#[c]⟩))) (some (.lst [])) S = .ok l.isEmpty S := by
  obtain ⟨a, b⟩ := sh_signs hs h
  rw [eqC_l (by
    unfold SeqAt.shaped
    simp only [PyData.canLay0, a, PyData.depth, b]
    decide)]
  cases l <;> rfl
theorem ift_q {cl : Cl} {t : Ex} {a b r : Sms} {en : En} {S S' : Sto} (h : evT cl t en S = .ok false S') : exss cl (.cons (.ift t a b) r) en S = (exss cl b en S').seq (exss cl r) := by simp [h]
theorem cut_from1 {α : Type} {xs : List α} : cutP xs (some 1) none = xs.drop 1 := by
  cases xs with
  | nil => rfl
  | cons x xs => rw [cut_1]; rfl
theorem rt_loop {w sh : Str} {ps : List P} {want : Option PV} {S0 : Sto} (hsh : SShA (cl ksh)) (ih : SRt (cl krt) d) (hp : ∀ p ∈ ps, Tm d p) (hsl : sh.length ≤ 4) : ∀ (cs : List Nat) (qs : List P) (j : Nat) (t : Nat) (v4 v5 v6 v7 : Option PV) (S : Sto), 1 ≤ t → sh.cps.toList.drop j = cs → ps.drop j = qs → cs.length = qs.length → (∀ c ∈ cs, c = 110 ∨ c = 119 ∨ c = 107 ∨ c = 116) →
    (rtL (rt d) cs qs t = 0 ∧ ∃ l, forL (.nm 4) [] (exss cl (rtB ksh krt)) ((List.range' j cs.length).map fun (x : Nat) => PV.p (.int (0 + (x : Int)))) [some (.p (.tuple (.str w :: ps))), want, some (.p (.str sh)), some (.p (.int (t : Int))), v4, v5, v6, v7] S = .rt (.p (.int 0)) (S ++ l)) ∨
    (∃ v4' v5' v6' v7' l, forL (.nm 4) [] (exss cl (rtB ksh krt)) ((List.range' j cs.length).map fun (x : Nat) => PV.p (.int (0 + (x : Int)))) [some (.p (.tuple (.str w :: ps))), want, some (.p (.str sh)), some (.p (.int (t : Int))), v4, v5, v6, v7] S = .nx [some (.p (.tuple (.str w :: ps))), want, some (.p (.str sh)), some (.p (.int (rtL (rt d) cs qs t : Int))), v4', v5', v6', v7'] (S ++ l))
  | [], qs, j, t, v4, v5, v6, v7, S, _, _, _, _, _ => .inr ⟨v4, v5, v6, v7, [], by simp [rtL]⟩
  | c :: cs, [], j, t, v4, v5, v6, v7, S, _, _, _, hle, _ => by cases hle
  | c :: cs, q :: qs, j, t, v4, v5, v6, v7, S, ht, h1, h2, hle, hc => by
    have hj : sh.cps.toList[j]? = some c := by
      have := congrArg (fun l => l[0]?) h1
      simpa using this
    have hq : ps[j]? = some q := by
      have := congrArg (fun l => l[0]?) h2
      simpa using this
    have h1' : sh.cps.toList.drop (j + 1) = cs := by
      rw [← List.drop_drop, h1]; rfl
    have h2' : ps.drop (j + 1) = qs := by
      rw [← List.drop_drop, h2]; rfl
    have hqm : q ∈ ps := List.mem_of_getElem? hq
    have x1 : ixP (PyData.str w :: ps) ((j : Int) + 1) = some q := by
      have : ((j : Int) + 1) = ((j + 1 : Nat) : Int) := by omega
      rw [this, ix_n, List.getElem?_cons_succ]; exact hq
    have x2 : ixP sh.cps.toList (j : Int) = some c := by rw [ix_n]; exact hj
    have s6 : sh.length ≤ 1000000 := by omega
    have IH := fun t v4 v5 v6 v7 S ht => rt_loop (w := w) (want := want) (S0 := S0) hsh ih hp hsl cs qs (j + 1) t v4 v5 v6 v7 S ht h1' h2' (Nat.succ.inj hle) (fun c' hc' => hc c' (List.mem_cons_of_mem _ hc'))
    have tq := hp q hqm
    have ek := ih q true S tq
    have et := ih q false S tq
    simp only [wk, if_true, Bool.false_eq_true, if_false] at ek et
    rw [List.length_cons, List.range'_succ, List.map_cons, for_cons0]
    have go : ∀ (m : Nat) (r : RS) (u5 u6 u7 : Option PV) (l : Sto), rtL (rt d) (c :: cs) (q :: qs) t = rtL (rt d) cs qs (t + m) → r = forL (.nm 4) [] (exss cl (rtB ksh krt)) ((List.range' (j + 1) cs.length).map fun (x : Nat) => PV.p (.int (0 + (x : Int)))) [some (.p (.tuple (.str w :: ps))), want, some (.p (.str sh)), some (.p (.int ((t + m : Nat) : Int))), some (.p (.int (j : Int))), u5, u6, u7] (S ++ l) →
        (rtL (rt d) (c :: cs) (q :: qs) t = 0 ∧ ∃ l, r = .rt (.p (.int 0)) (S ++ l)) ∨ (∃ v4' v5' v6' v7' l, r = .nx [some (.p (.tuple (.str w :: ps))), want, some (.p (.str sh)), some (.p (.int (rtL (rt d) (c :: cs) (q :: qs) t : Int))), v4', v5', v6', v7'] (S ++ l)) := fun m r u5 u6 u7 l e1 e2 => by
      rw [e1, e2]
      rcases IH (t + m) (some (.p (.int (j : Int)))) u5 u6 u7 (S ++ l) (by omega) with ⟨h, l2, h2⟩ | ⟨a, b, e, f, l2, h⟩
      · exact .inl ⟨h, l ++ l2, by rw [h2, List.append_assoc]⟩
      · exact .inr ⟨a, b, e, f, l ++ l2, by rw [h, List.append_assoc]⟩
    rcases hc c List.mem_cons_self with rfl | rfl | rfl | rfl
    · have bad : numOk q = false → ∃ l, kTg (exss cl (rtB ksh krt)) (forL (.nm 4) [] (exss cl (rtB ksh krt)) ((List.range' (j + 1) cs.length).map fun (x : Nat) => PV.p (.int (0 + (x : Int))))) S (tgV (.nm 4) (.p (.int (0 + (j : Int)))) [some (.p (.tuple (.str w :: ps))), want, some (.p (.str sh)), some (.p (.int (t : Int))), v4, v5, v6, v7]) = .rt (.p (.int 0)) (S ++ l) := fun hb => by
        refine ⟨[], ?_⟩
        unfold rtB
        cases q with
        | int i =>
          by_cases c1 : i < 0
          · simp [x1, x2, s6, ch_n, c1]
          · have c2 : 99 < i := by
              by_cases c3 : 99 < i
              · exact c3
              · have : numOk (.int i) = true := by
                  unfold numOk; simp; omega
                rw [this] at hb; cases hb
            simp [x1, x2, s6, ch_n, c1, c2]
        | str s => simp [x1, x2, s6, ch_n]
        | bool b => simp [x1, x2, s6, ch_n]
        | none => simp [x1, x2, s6, ch_n]
        | tuple xs => simp [x1, x2, s6, ch_n]
        | _ => cases d <;> exact tq.elim
      cases q1 : numOk q with
      | false => exact .inl ⟨rt_2 rfl (by rw [q1]; decide), bad q1⟩
      | true =>
        cases q with
        | int i =>
          unfold numOk at q1
          simp at q1
          have c1 : ¬ i < 0 := by omega
          have c2 : ¬ 99 < i := by omega
          refine go 0 _ (some (.p (.int i))) v6 v7 [] (rt_1 rfl (by unfold numOk; simp; omega)) ?_
          unfold rtB
          simp [x1, x2, s6, ch_n, c1, c2]
        | _ => cases q1
    · cases q with
      | str s =>
        have hl : s.length ≤ 100 ∧ PyData.strOk s = true := by cases d with
          | zero => exact tq.elim
          | succ d => exact tq
        have s7 : s.length ≤ 1000000 := by omega
        by_cases c1 : (s.length : Int) < 1
        · have c1' : ¬ 1 ≤ s.length := by omega
          refine .inl ⟨rt_4 (by decide) rfl (by simp [namOk, c1']), [], ?_⟩
          unfold rtB
          simp [x1, x2, s6, ch_w, s7, c1]
        · by_cases c2 : (12 : Int) < (s.length : Int)
          · have c2' : ¬ s.length ≤ 12 := by omega
            refine .inl ⟨rt_4 (by decide) rfl (by simp [namOk, c2']), [], ?_⟩
            unfold rtB
            simp [x1, x2, s6, ch_w, s7, c1, c2]
          · have cc := bad_comp (cl := cl) (s := s) (S := S) (a0 := some (.p (.tuple (.str w :: ps)))) (a1 := want) (a2 := some (.p (.str sh))) (a3 := some (.p (.int (t : Int)))) (a4 := some (.p (.int (j : Int)))) (a6 := v6) (a7 := v7) hl.1
            have en := fun S => eq_signs (S := S) hl.2 (l := s.cps.toList.filter fun c => !inS ⟨#[c]⟩ abL) fun c hc => (List.mem_filter.mp hc).1
            have e3 := fun l => hsh s (S ++ l)
            have ea : (s.cps.toList.filter fun c => !inS ⟨#[c]⟩ abL).isEmpty = s.cps.toList.all fun c => inS ⟨#[c]⟩ abL := by
              generalize s.cps.toList = l
              induction l with
              | nil => rfl
              | cons a l ih =>
                rw [List.filter_cons, List.all_cons]
                cases z : inS ⟨#[a]⟩ abL with
                | true => simpa using ih
                | false => rfl
            rw [ea] at en
            have n1 : decide (1 ≤ s.length) = true := by simp; omega
            have n2 : decide (s.length ≤ 12) = true := by simp; omega
            have nm : namOk (.str s) = ((s.cps.toList.all fun c => inS ⟨#[c]⟩ abL) && (shO s).isNone) := by
              unfold namOk
              dsimp only
              rw [n1, n2]; rfl
            generalize (s.cps.toList.filter fun c => !inS ⟨#[c]⟩ abL).map (fun c => PyData.str ⟨#[c]⟩) = bl at *
            cases q2 : s.cps.toList.all fun c => inS ⟨#[c]⟩ abL with
            | false =>
              rw [q2] at en nm
              refine .inl ⟨rt_4 (by decide) rfl (by rw [nm]; simp), [.lst bl, .lst []], ?_⟩
              unfold rtB
              simp [-ev_comp, x1, x2, s6, ch_w, s7, c1, c2, cc, en]
            | true =>
              rw [q2] at en nm
              unfold shP at e3
              cases q3 : shO s with
              | some z =>
                rw [q3] at e3 nm
                refine .inl ⟨rt_4 (by decide) rfl (by rw [nm]; simp), [.lst bl, .lst []], ?_⟩
                unfold rtB
                simp [-ev_comp, x1, x2, s6, ch_w, s7, c1, c2, cc, en, e3]
              | none =>
                rw [q3] at e3 nm
                refine go 0 _ (some (.p (.str s))) v6 v7 [.lst bl, .lst []] (rt_3 (by decide) rfl (by rw [nm]; rfl)) ?_
                unfold rtB
                simp [-ev_comp, x1, x2, s6, ch_w, s7, c1, c2, cc, en, e3]
      | int i => exact .inl ⟨rt_4 (by decide) rfl (by simp [namOk]), [], by unfold rtB; simp [x1, x2, s6, ch_w]⟩
      | bool i => exact .inl ⟨rt_4 (by decide) rfl (by simp [namOk]), [], by unfold rtB; simp [x1, x2, s6, ch_w]⟩
      | none => exact .inl ⟨rt_4 (by decide) rfl (by simp [namOk]), [], by unfold rtB; simp [x1, x2, s6, ch_w]⟩
      | tuple i => exact .inl ⟨rt_4 (by decide) rfl (by simp [namOk]), [], by unfold rtB; simp [x1, x2, s6, ch_w]⟩
      | _ => cases d <;> exact tq.elim
    · have dk : decide ((107 : Nat) = cK) = true := by decide
      by_cases c3 : rt d true q = 0
      · refine .inl ⟨rt_5 (by decide) (by decide) (by rw [dk]; exact c3), [], ?_⟩
        unfold rtB
        simp [x1, x2, s6, ch_k, ek, c3]
      · refine go (rt d true q) _ (some (.p q)) (some (.p (.int (rt d true q : Int)))) v7 [] (by rw [rt_6 (by decide) (by decide) (by rw [dk]; exact c3), dk]) ?_
        unfold rtB
        simp [x1, x2, s6, ch_k, ek, c3]
    · have dk : decide ((116 : Nat) = cK) = false := by decide
      by_cases c3 : rt d false q = 0
      · refine .inl ⟨rt_5 (by decide) (by decide) (by rw [dk]; exact c3), [], ?_⟩
        unfold rtB
        simp [x1, x2, s6, ch_t, et, c3]
      · refine go (rt d false q) _ (some (.p q)) (some (.p (.int (rt d false q : Int)))) v7 [] (by rw [rt_6 (by decide) (by decide) (by rw [dk]; exact c3), dk]) ?_
        unfold rtB
        simp [x1, x2, s6, ch_t, et, c3]
theorem rt_ok (hsh : SShA (cl ksh)) (ih : SRt (cl krt) d) : SRt (runD cl 2 8 (m_l_right ksh krt)) (d + 1) := by
  intro x k S hx
  unfold m_l_right
  cases x with
  | int i => simp [runD, rt]
  | str i => simp [runD, rt]
  | bool i => simp [runD, rt]
  | none => simp [runD, rt]
  | tuple xs =>
    cases xs with
    | nil => simp [runD, rt]
    | cons y ps =>
      have ln : ¬ ((ps.length : Int) + 1 = 0) := by omega
      cases y with
      | int i => simp [runD, rt, ln, ixP]
      | bool i => simp [runD, rt, ln, ixP]
      | none => simp [runD, rt, ln, ixP]
      | tuple i => simp [runD, rt, ln, ixP]
      | str w =>
        have e1 := hsh w S
        unfold shP at e1
        have kw : inT [.str "nat", .str "none", .str "all", .str "some", .str "same"] (.str w) = isKw w := rfl
        cases q : shO w with
        | none =>
          rw [q] at e1
          simp [runD, rt, ln, ixP, e1, q]
        | some sh =>
          rw [q] at e1
          have s4 := sh_len q
          have s6 : sh.length ≤ 1000000 := by omega
          have sn : ¬ ((sh.length : Nat) : Int) + 1 = 0 := by omega
          by_cases c1 : ps.length = sh.length
          · have c1' : ((ps.length : Nat) : Int) + 1 = (sh.length : Int) + 1 := by omega
            by_cases c2 : isKw w = k
            · obtain ⟨L, hL⟩ : ∃ L : Sto, L = S ++ [.lst [.str "nat", .str "none", .str "all", .str "some", .str "same"]] := ⟨_, rfl⟩
              have lp := rt_loop (cl := cl) (ksh := ksh) (krt := krt) (w := w) (sh := sh) (ps := ps) (want := some (.p (.str (wk k)))) (S0 := S) hsh ih (fun p hp => hx.2 p (List.mem_cons_of_mem _ hp)) s4 sh.cps.toList ps 0 1 none none none none L (by decide) rfl rfl (by rw [c1]; rfl) (sh_codes q)
              have lc : sh.cps.toList.length = sh.length := rfl
              rw [lc, ← List.range_eq_range'] at lp
              have hb : ((sh.length : Nat) : Int) < 4611686018427387904 := by omega
              have ek : rt (d + 1) k (.tuple (.str w :: ps)) = rtL (rt d) sh.cps.toList ps 1 := by
                rw [rt]; simp only [q]; rw [if_pos c1, if_pos c2]
              rw [ek]
              unfold rtB at lp
              rcases lp with ⟨z, l, lp⟩ | ⟨u4, u5, u6, u7, l, lp⟩
              · rw [z]
                simp [hL] at lp
                simp [runD, ln, sn, ixP, e1, s6, c1', -inT_cons, -inT_nil, kw, wk_k, c2, hb, lp]
              · simp [hL] at lp
                simp [runD, ln, sn, ixP, e1, s6, c1', -inT_cons, -inT_nil, kw, wk_k, c2, hb, lp]
            · have ek : rt (d + 1) k (.tuple (.str w :: ps)) = 0 := by
                rw [rt]; simp only [q]; rw [if_pos c1, if_neg c2]
              rw [ek]
              simp [runD, ln, sn, ixP, e1, s6, c1', -inT_cons, -inT_nil, kw, wk_k, c2]
          · have c1' : ¬ ((ps.length : Nat) : Int) + 1 = (sh.length : Int) + 1 := by omega
            have ek : rt (d + 1) k (.tuple (.str w :: ps)) = 0 := by
              rw [rt]; simp only [q]; rw [if_neg c1]
            rw [ek]
            simp [runD, ln, sn, ixP, e1, s6, c1']
      | _ =>
        have z := hx.2 _ List.mem_cons_self
        cases d <;> exact z.elim
  | _ => exact hx.elim
/-- how deep -/
def SDq (c : Cf) (d : Nat) : Prop := ∀ (x : P) (S : Sto), Tm d x → c [.p x] S = .ok (.p (.int (dq d x : Int))) S
theorem maxL_mxN (l : List Nat) : maxL 0 (l.map fun (n : Nat) => (n : Int)) = (mxN l : Int) := by
  have : ∀ (l : List Nat) (a : Nat), maxI (a : Int) (l.map fun (n : Nat) => (n : Int)) = ((l.foldl max a : Nat) : Int) := by
    intro l
    induction l with
    | nil => intro a; rfl
    | cons b l ih =>
      intro a
      rw [List.map_cons, maxI, List.foldl_cons, ← ih]
      congr 1
      split <;> omega
  cases l with
  | nil => rfl
  | cons b l =>
    show maxI (b : Int) _ = _
    rw [this]
    unfold mxN
    rw [List.foldl_cons, Nat.zero_max]
theorem dqs_ok {kd : Nat} (ih : SDq (cl kd) d) : SDq (runD cl 1 2 (m_l_depth kd)) (d + 1) := by
  intro x S hx
  unfold m_l_depth
  cases x with
  | int i => simp [runD, dq]
  | str i => simp [runD, dq]
  | bool i => simp [runD, dq]
  | none => simp [runD, dq]
  | tuple xs =>
    have hh : ∀ x ∈ xs.drop 1, ∀ acc : List P, evC cl .non (List.set [some (.p (.tuple xs)), none] 1 (some (.p x))) (S ++ [.lst acc]) = .ok true (S ++ [.lst acc]) ∧
        (true = true → ev cl (.call kd (.cons (.v 1) .nil)) (List.set [some (.p (.tuple xs)), none] 1 (some (.p x))) (S ++ [.lst acc]) = .ok (.p (.int (dq d x : Int))) (S ++ [.lst acc])) := fun x hm acc => by
      have e := fun S => ih x S (hx.2 x (List.mem_of_mem_drop hm))
      exact ⟨by simp, fun _ => by simp [e]⟩
    have c := compL_ok (el := ev cl (.call kd (.cons (.v 1) .nil))) (tst := evC cl .non) (i := 1) (w := []) (S0 := S) (en := [some (.p (.tuple xs)), none])
      (fun (x : P) => PV.p x) (fun _ => true) (fun x => PyData.int (dq d x : Int)) (fun q hq => absurd hq List.not_mem_nil) (fun q hq => absurd hq List.not_mem_nil) (xs.drop 1) [] hh (by have := hx.1; simp; omega)
    have ff : (xs.drop 1).filter (fun _ => true) = xs.drop 1 := List.filter_eq_self.mpr fun _ _ => rfl
    rw [ff, List.nil_append] at c
    have e1 : ev cl (.comp 1 (.val (.sl (.v 0) (.one (.c (.int 1))) .non)) .non (.call kd (.cons (.v 1) .nil))) [some (.p (.tuple xs)), none] S = .ok (.loc S.length) (S ++ [.lst (((xs.drop 1).map fun x => (dq d x : Int)).map .int)]) := by
      rw [ev_comp]
      have e0 : evI cl (.val (.sl (.v 0) (.one (.c (.int 1))) .non)) [some (.p (.tuple xs)), none] S = .ok ((xs.drop 1).map fun (x : P) => PV.p x, []) S := by
        simp [cut_from1]
      rw [e0, bind_ok, kComp_]
      dsimp only
      rw [c, bind_ok, kCmpD_, List.map_map]
      rfl
    have m1 : maxL 0 ((xs.drop 1).map fun x => (dq d x : Int)) = (mxN ((xs.drop 1).map (dq d)) : Int) := by
      rw [← maxL_mxN, List.map_map]; rfl
    have e2 : ev cl (.bin .add (.c (.int 1)) (.bi .maxd (.cons (.comp 1 (.val (.sl (.v 0) (.one (.c (.int 1))) .non)) .non (.call kd (.cons (.v 1) .nil))) (.cons (.c (.int 0)) .nil)))) [some (.p (.tuple xs)), none] S = .ok (.p (.int (dq (d + 1) (.tuple xs) : Int))) (S ++ [.lst (((xs.drop 1).map fun x => (dq d x : Int)).map .int)]) := by
      rw [ev_bin, ev_c, bind_ok, kBin_, ev_bi, evs_cons, e1]
      have hq : ((dq (d + 1) (.tuple xs) : Nat) : Int) = 1 + (mxN ((xs.drop 1).map (dq d)) : Int) := by
        show ((1 + mxN ((xs.drop 1).map (dq d)) : Nat) : Int) = _
        omega
      rw [hq]
      generalize xs.drop 1 = ys at *
      simp [-List.map_map, m1]
    refine Eq.trans (if_pos rfl) ?_
    show endV S.length (exss cl _ [some (.p (.tuple xs)), none] S) = _
    rw [ift_q (S' := S) (by simp), exss_nil, seq_nx, exss_cons, exs_ret, e2]
    simp
  | _ => exact hx.elim
end
end Kp

set_option Elab.async false
set_option linter.all false
set_option maxRecDepth 100000
set_option maxHeartbeats 8000000
set_option autoImplicit false
/-! S74: things spoilt. -/
namespace Kp
open PySem PySem.Spec PyProof.Rows L2
def tmS (s : Str) : Prop := s.length ≤ 100 ∧ PyData.strOk s = true
theorem sk_app {a b : Str} : PyData.strOk (a ++ b) = (PyData.strOk a && PyData.strOk b) := by
  show (a.cps ++ b.cps).all _ = _
  rw [Array.all_append]
  rfl
theorem sk_cut {s : Str} {lo hi : Option Int} (h : PyData.strOk s = true) : PyData.strOk (cutS s lo hi) = true := by
  unfold PyData.strOk cutS at *
  rw [← Array.all_toList, List.all_eq_true] at *
  intro x hx
  refine h x ?_
  have hx : x ∈ cutP s.cps.toList lo hi := hx
  unfold cutP at hx
  exact List.mem_of_mem_drop (List.mem_of_mem_take hx)
theorem sk_rev {s : Str} (h : PyData.strOk s = true) : PyData.strOk (revS s) = true := by
  unfold PyData.strOk revS at *
  rw [← Array.all_toList, List.all_eq_true] at *
  intro x hx
  refine h x ?_
  simpa using hx
theorem nm_tmS (n : Int) : tmS (nmOf n) := by
  have l0 := nmW_len (n := n)
  have k1 : "o".length = 1 := by decide +kernel
  have o1 : PyData.strOk "o" = true := by decide +kernel
  have w1 : PyData.strOk (nmW n) = true := sk_cut (by decide +kernel)
  have c1 := cutS_len (lo := none) (hi := some 1) l0
  unfold nmOf tmS
  split
  · exact ⟨Nat.le_trans (cutS_len (n := 76) (by rw [app_len, revS_len]; omega)) (by decide), sk_cut (by rw [sk_app, sk_cut w1, sk_rev w1]; rfl)⟩
  · split
    · exact ⟨Nat.le_trans (cutS_len (n := 77) (by rw [app_len, app_len, len_of]; have : "o".length = 1 := k1; omega)) (by decide), sk_cut (by rw [sk_app, sk_app, o1, w1]; rfl)⟩
    · exact ⟨by omega, w1⟩
@[simp] def Th.tk : Th → Prop
  | .nm s => tmS s
  | .var _ => True | .n0 _ => True
  | .n1 _ a => a.tk
  | .n2 _ a b => a.tk ∧ b.tk
  | .n3 _ a b c => a.tk ∧ b.tk ∧ c.tk
  | .rc a b c d => a.tk ∧ b.tk ∧ c.tk ∧ d.tk
theorem gr_tk : ∀ (d : Nat) (t : Th) (b : Bool), t.gr b d → t.tk
  | 0, t, b, h => by cases t <;> exact h.elim
  | d + 1, .var n, b, h => trivial
  | d + 1, .nm s, b, h => by obtain ⟨n, rfl⟩ := h.2; exact nm_tmS n
  | d + 1, .n0 w, b, h => trivial
  | d + 1, .n1 w a, b, h => gr_tk d a _ h.2
  | d + 1, .n2 w x y, b, h => by
    have q : (∃ c e, x.gr c d ∧ y.gr e d) := by cases w <;> exact ⟨_, _, h.2.1, h.2.2⟩
    obtain ⟨c, e, hx, hy⟩ := q
    exact ⟨gr_tk d x _ hx, gr_tk d y _ hy⟩
  | d + 1, .n3 w x y z, b, h => by
    have q : (∃ c e f, x.gr c d ∧ y.gr e d ∧ z.gr f d) := by cases w <;> exact ⟨_, _, _, h.2.1, h.2.2.1, h.2.2.2⟩
    obtain ⟨c, e, f, hx, hy, hz⟩ := q
    exact ⟨gr_tk d x _ hx, gr_tk d y _ hy, gr_tk d z _ hz⟩
  | d + 1, .rc x y z u, b, h => ⟨gr_tk d x _ h.2.1, gr_tk d y _ h.2.2.1, gr_tk d z _ h.2.2.2.1, gr_tk d u _ h.2.2.2.2⟩
theorem tm_up : ∀ (d : Nat) (x : P), Tm d x → Tm (d + 1) x
  | 0, x, h => h.elim
  | d + 1, x, h => by
    cases x with
    | tuple xs => exact ⟨h.1, fun y hy => tm_up d y (h.2 y hy)⟩
    | int i => trivial
    | bool i => trivial
    | none => trivial
    | str s => exact h
    | _ => exact h.elim
theorem tm_le {d e : Nat} {x : P} (h : Tm d x) (l : d ≤ e) : Tm e x := by
  obtain ⟨k, rfl⟩ : ∃ k, e = d + k := ⟨e - d, by omega⟩
  induction k with
  | zero => exact h
  | succ k ih => exact tm_up _ _ (ih (by omega))
theorem w_tmS (t : Th) : tmS t.w := by
  have m : (t.w, t.sh) ∈ words := by
    cases t with
    | n0 w => cases w <;> simp [words]
    | n1 w _ => cases w <;> simp [words]
    | n2 w _ _ => cases w <;> simp [words]
    | n3 w _ _ _ => cases w <;> simp [words]
    | _ => simp [words]
  have h : words.all (fun q => decide (q.1.length ≤ 100) && PyData.strOk q.1) = true := by decide +kernel
  have := List.all_eq_true.mp h _ m
  simp only [Bool.and_eq_true, decide_eq_true_eq] at this
  exact this
theorem tm_th : ∀ (t : Th) (d : Nat), t.tk → t.dp ≤ d → Tm (d + 1) t.e
  | t, 0, _, h => absurd h (by have := dp_pos t; omega)
  | .var n, d + 1, h, hd => ⟨by simp, fun x hx => by
      have hx : x ∈ [PyData.str "var", .int n] := hx
      simp only [List.mem_cons, List.not_mem_nil, or_false] at hx
      rcases hx with rfl | rfl
      · exact w_tmS (.var n)
      · trivial⟩
  | .nm s, d + 1, h, hd => ⟨by simp, fun x hx => by
      have hx : x ∈ [PyData.str "name", .str s] := hx
      simp only [List.mem_cons, List.not_mem_nil, or_false] at hx
      rcases hx with rfl | rfl
      · exact w_tmS (.nm s)
      · exact h⟩
  | .n0 w, d + 1, h, hd => ⟨by simp, fun x hx => by
      have hx : x ∈ [PyData.str (Th.n0 w).w] := hx
      simp only [List.mem_cons, List.not_mem_nil, or_false] at hx
      subst hx
      exact w_tmS (.n0 w)⟩
  | .n1 w a, d + 1, h, hd => ⟨by simp, fun x hx => by
      have hx : x ∈ [PyData.str (Th.n1 w a).w, a.e] := hx
      simp only [Th.dp] at hd
      simp only [List.mem_cons, List.not_mem_nil, or_false] at hx
      rcases hx with rfl | rfl
      · exact w_tmS (.n1 w a)
      · exact tm_th a d h (by omega)⟩
  | .n2 w a b, d + 1, h, hd => ⟨by simp, fun x hx => by
      have hx : x ∈ [PyData.str (Th.n2 w a b).w, a.e, b.e] := hx
      simp only [Th.dp] at hd
      simp only [List.mem_cons, List.not_mem_nil, or_false] at hx
      rcases hx with rfl | rfl | rfl
      · exact w_tmS (.n2 w a b)
      · exact tm_th a d h.1 (by omega)
      · exact tm_th b d h.2 (by omega)⟩
  | .n3 w a b c, d + 1, h, hd => ⟨by simp, fun x hx => by
      have hx : x ∈ [PyData.str (Th.n3 w a b c).w, a.e, b.e, c.e] := hx
      simp only [Th.dp] at hd
      simp only [List.mem_cons, List.not_mem_nil, or_false] at hx
      rcases hx with rfl | rfl | rfl | rfl
      · exact w_tmS (.n3 w a b c)
      · exact tm_th a d h.1 (by omega)
      · exact tm_th b d h.2.1 (by omega)
      · exact tm_th c d h.2.2 (by omega)⟩
  | .rc a b c e, d + 1, h, hd => ⟨by simp, fun x hx => by
      have hx : x ∈ [PyData.str (Th.rc a b c e).w, a.e, b.e, c.e, e.e] := hx
      simp only [Th.dp] at hd
      simp only [List.mem_cons, List.not_mem_nil, or_false] at hx
      rcases hx with rfl | rfl | rfl | rfl | rfl
      · exact w_tmS (.rc a b c e)
      · exact tm_th a d h.1 (by omega)
      · exact tm_th b d h.2.1 (by omega)
      · exact tm_th c d h.2.2.1 (by omega)
      · exact tm_th e d h.2.2.2 (by omega)⟩
theorem ct_to {α : Type} {xs : List α} (n : Nat) : cutP xs none (some (n : Int)) = xs.take n := by
  unfold cutP
  rw [HT.sIx_nat, HT.sIx_none]
  simp
theorem ct_from {α : Type} {xs : List α} (n : Nat) : cutP xs (some (n : Int)) none = xs.drop n := by
  unfold cutP
  rw [HT.sIx_nat, HT.sIx_none]
  rcases Nat.lt_or_ge xs.length n with h | h
  · rw [Nat.min_eq_right (by omega), List.drop_length, List.drop_of_length_le (by omega)]
    simp
  · rw [Nat.min_eq_left h, List.take_of_length_le (by simp)]
theorem as_len (t : Th) : t.as.length ≤ 4 := by cases t <;> simp
theorem cut_mem {α : Type} {xs : List α} {lo hi : Option Int} {x : α} (h : x ∈ cutP xs lo hi) : x ∈ xs := by
  unfold cutP at h
  exact List.mem_of_mem_drop (List.mem_of_mem_take h)
theorem cut_len {α : Type} {xs : List α} {lo hi : Option Int} : (cutP xs lo hi).length ≤ xs.length := by
  unfold cutP
  rw [List.length_take, List.length_drop]
  omega
section
variable {cl : Cl} {ksp kbe d : Nat}
def SSpo (c : Cf) : Prop := ∀ (t : Th) (d : Nat) (way cell : Int) (S : Sto), t.tk → t.dp ≤ d → 0 ≤ way → way < 7 → ∃ y, Tm (d + 3) y ∧ c [.p t.e, .p (.int way), .p (.int cell)] S = .ok (.p y) S
def spW : List P := [.str "nat", .str "zero", .str "app", .str "fun", .str "Nat", .str "", .str "rec", .str "second", .str "var", .str "name"]
def spN : List P := [.str "Ab", .str "", .str "abcdefghijklm", .str "a b", .int 3, .str (repS "z" 12), .str "abc1", .str "never", .str "none", .str "var", .str "nones"]
def spM : List P := [.str "nat", .str "none", .str "all", .str "some", .str "same", .str "var", .str "fun", .str "app", .str "zero", .str "next", .str "rec", .str "like", .str "carry", .str "never", .str "pair", .str "first", .str "second", .str "name"]
def spX : List P := [.none, .tuple [], .str "zero", .int 0, .bool true, .tuple [.none], .tuple [.tuple []], .tuple [.str "zero", .none]]
def spY : List P := [.tuple [.str "nat"], .tuple [.str "zero"], .tuple [.str "same", .tuple [.str "nat"], .tuple [.str "zero"], .tuple [.str "zero"]], .tuple [.str "var", .int 0]]
def tmb : Nat → P → Bool
  | 0, _ => false
  | d + 1, .tuple xs => decide (xs.length ≤ 20) && xs.all (tmb d)
  | _ + 1, .int _ => true
  | _ + 1, .str s => decide (s.length ≤ 100) && PyData.strOk s
  | _ + 1, .bool _ => true
  | _ + 1, .none => true
  | _ + 1, _ => false
theorem tmb_tm : ∀ (d : Nat) (x : P), tmb d x = true → Tm d x
  | 0, x, h => by cases x <;> cases h
  | d + 1, x, h => by
    cases x with
    | tuple xs =>
      simp only [tmb, Bool.and_eq_true, decide_eq_true_eq, List.all_eq_true] at h
      exact ⟨h.1, fun y hy => tmb_tm d y (h.2 y hy)⟩
    | int i => trivial
    | bool i => trivial
    | none => trivial
    | str s =>
      simp only [tmb, Bool.and_eq_true, decide_eq_true_eq] at h
      exact h
    | _ => cases h
theorem pick_tm {l : List P} {d n : Nat} {i : Int} (h : l.all (tmb d) = true) (hn : l.length = n) (h0 : 0 ≤ i) (h1 : i < n) : ∃ y, ixP l i = some y ∧ Tm d y := by
  obtain ⟨k, rfl⟩ := Int.eq_ofNat_of_zero_le h0
  have hk : k < l.length := by omega
  refine ⟨l[k], by rw [ix_n, List.getElem?_eq_getElem hk], tmb_tm _ _ (List.all_eq_true.mp h _ (List.getElem_mem hk))⟩
theorem spoilt10_ok : SSpo (runD cl 3 5 m_l_spoilt) := by
  intro t d way cell S ht hd h0 h7
  obtain ⟨d, rfl⟩ : ∃ e, d = e + 1 := ⟨d - 1, by have := dp_pos t; omega⟩
  have tm := tm_th t (d + 1) ht hd
  rw [Th.e_eq] at tm ⊢
  have al := as_len t
  have w8 : (spW).length = 10 := rfl
  have cs : way = 0 ∨ way = 1 ∨ way = 2 ∨ way = 3 ∨ way = 4 ∨ way = 5 ∨ way = 6 := by omega
  have z1 : (Str.ofString "z").length = 1 := by decide +kernel
  unfold m_l_spoilt
  rcases cs with rfl | rfl | rfl | rfl | rfl | rfl | rfl
  · obtain ⟨y, e, hy⟩ := pick_tm (l := spW) (d := 1) (n := 10) (i := cell % 10) (by decide +kernel) rfl (by omega) (by omega)
    unfold spW at e
    refine ⟨.tuple (y :: t.as), ⟨by simp; omega, fun x hx => ?_⟩, ?_⟩
    · rcases List.mem_cons.mp hx with rfl | hx
      · exact tm_le hy (by omega)
      · exact tm_le (tm.2 x (List.mem_cons_of_mem _ hx)) (by omega)
    · have b : 1 + t.as.length ≤ 1000000 := by omega
      simp [runD, e, b]
  · refine ⟨.tuple (.str t.w :: t.as ++ [.tuple (.str t.w :: t.as)]), ⟨by simp; omega, fun x hx => ?_⟩, ?_⟩
    · rcases List.mem_append.mp hx with hx | hx
      · exact tm_le (tm.2 x hx) (by omega)
      · rw [List.mem_singleton] at hx; subst hx; exact tm_le tm (by omega)
    · have b : t.as.length + 1 + 1 ≤ 1000000 := by omega
      simp [runD, b]
  · refine ⟨.tuple (cutP (.str t.w :: t.as) none (some (-1))), ⟨Nat.le_trans cut_len (by simp; omega), fun x hx => tm_le (tm.2 x (cut_mem hx)) (by omega)⟩, ?_⟩
    simp [runD]
  · obtain ⟨y, e, hy⟩ := pick_tm (l := [.int (cell % 106 - 3), .bool true, .str "0", .none]) (d := 1) (n := 4) (i := cell / 106 % 4) (by simp only [List.all_cons, List.all_nil, tmb, Bool.and_true, Bool.true_and]; decide +kernel) rfl (by omega) (by omega)
    refine ⟨.tuple [.str "var", y], ⟨by simp, fun x hx => ?_⟩, ?_⟩
    · simp only [List.mem_cons, List.not_mem_nil, or_false] at hx
      rcases hx with rfl | rfl
      · exact w_tmS (.var 0)
      · exact tm_le hy (by omega)
    · simp [runD, e]
  · by_cases c : cell / 11 % 3 = 1
    · obtain ⟨y, e, hy⟩ := pick_tm (l := spM) (d := 1) (n := 18) (i := cell / 33 % 18) (by decide +kernel) rfl (by omega) (by omega)
      unfold spM at e
      refine ⟨.tuple [.str "name", y], ⟨by simp, fun x hx => ?_⟩, ?_⟩
      · simp only [List.mem_cons, List.not_mem_nil, or_false] at hx
        rcases hx with rfl | rfl
        · exact w_tmS (.nm "a")
        · exact tm_le hy (by omega)
      · simp [runD, z1, c, e]
    · obtain ⟨y, e, hy⟩ := pick_tm (l := spN) (d := 1) (n := 11) (i := cell % 11) (by decide +kernel) rfl (by omega) (by omega)
      unfold spN at e
      refine ⟨.tuple [.str "name", y], ⟨by simp, fun x hx => ?_⟩, ?_⟩
      · simp only [List.mem_cons, List.not_mem_nil, or_false] at hx
        rcases hx with rfl | rfl
        · exact w_tmS (.nm "a")
        · exact tm_le hy (by omega)
      · simp [runD, z1, c, e]
  · obtain ⟨y, e, hy⟩ := pick_tm (l := spX) (d := 3) (n := 8) (i := cell % 8) (by decide +kernel) rfl (by omega) (by omega)
    unfold spX at e
    exact ⟨y, tm_le hy (by omega), by simp [runD, e]⟩
  · obtain ⟨y, e, hy⟩ := pick_tm (l := spY) (d := 3) (n := 4) (i := cell % 4) (by decide +kernel) rfl (by omega) (by omega)
    unfold spY at e
    exact ⟨y, tm_le hy (by omega), by simp [runD, e]⟩
end
end Kp

set_option Elab.async false
set_option linter.all false
set_option maxRecDepth 100000
set_option maxHeartbeats 8000000
set_option autoImplicit false
/-! S75: things bent. -/
namespace Kp
open PySem PySem.Spec PyProof.Rows L2
section
variable {cl : Cl} {ksp kbe d : Nat}
def SBent (c : Cf) (d : Nat) : Prop := ∀ (t : Th) (path way cell : Int) (S : Sto), t.tk → t.dp ≤ d → 0 ≤ way → way < 7 → ∃ y, Tm (d + 3) y ∧ c [.p t.e, .p (.int path), .p (.int way), .p (.int cell)] S = .ok (.p y) S
theorem kids4 (t : Th) : t.kids.length ≤ 4 := by cases t <;> simp
theorem kids_tk {t : Th} (h : t.tk) : ∀ k ∈ t.kids, k.tk := by
  intro k hk
  cases t with
  | n1 w a => simp at hk; subst hk; exact h
  | n2 w a b => simp at hk; rcases hk with rfl | rfl <;> first | exact h.1 | exact h.2
  | n3 w a b c => simp at hk; rcases hk with rfl | rfl | rfl <;> first | exact h.1 | exact h.2.1 | exact h.2.2
  | rc a b c e => simp at hk; rcases hk with rfl | rfl | rfl | rfl <;> first | exact h.1 | exact h.2.1 | exact h.2.2.1 | exact h.2.2.2
  | _ => simp at hk
theorem kidsdp (t : Th) (hd : t.dp ≤ d + 1) : ∀ k ∈ t.kids, k.dp ≤ d := by
  intro k hk
  cases t with
  | n1 w a => simp at hk hd; subst hk; omega
  | n2 w a b => simp at hk hd; rcases hk with rfl | rfl <;> omega
  | n3 w a b c => simp at hk hd; rcases hk with rfl | rfl | rfl <;> omega
  | rc a b c e => simp at hk hd; rcases hk with rfl | rfl | rfl | rfl <;> omega
  | _ => simp at hk
theorem bent_ok (hs : SSpo (cl ksp)) (ih : SBent (cl kbe) d) : SBent (runD cl 4 5 (m_l_bent kbe ksp)) (d + 1) := by
  intro t path way cell S ht hd h0 h7
  obtain ⟨y, hy, e⟩ := hs t (d + 1) way cell S ht hd h0 h7
  by_cases c0 : t.kids = []
  · refine ⟨y, hy, ?_⟩
    unfold m_l_bent
    cases t with
    | var n => by_cases c : path % 4 = 0 <;> (simp [Th.e] at e; simp [runD, Th.e, ixP, e, c])
    | nm s => by_cases c : path % 4 = 0 <;> (simp [Th.e] at e; simp [runD, Th.e, ixP, e, c])
    | n0 w =>
      cases w <;> (simp [Th.e] at e; simp [runD, Th.e, e])
    | n1 w a => simp at c0
    | n2 w a b => simp at c0
    | n3 w a b c => simp at c0
    | rc a b c e => simp at c0
  · by_cases c : path % 4 = 0
    · refine ⟨y, hy, ?_⟩
      have e' := e
      unfold m_l_bent
      rw [Th.e_eq] at e' ⊢
      by_cases c2 : ((t.as.length : Nat) : Int) + 1 < 2
      · simp [runD, e', c, c2]
      · simp [runD, e', c, c2]
    · -- goes down
      have as : t.as = t.kids.map Th.e := by cases t <;> first | rfl | exact absurd rfl c0
      have kl : 1 ≤ t.kids.length := by
        cases h : t.kids with
        | nil => exact absurd h c0
        | cons a l => simp
      have k4 := kids4 t
      obtain ⟨i, hi, hi2⟩ : ∃ i : Nat, 1 + path / 4 % (t.kids.length : Int) = ((i + 1 : Nat) : Int) ∧ i < t.kids.length := by
        have a := Int.emod_nonneg (path / 4) (show (t.kids.length : Int) ≠ 0 by omega)
        have b := Int.emod_lt_of_pos (path / 4) (show 0 < (t.kids.length : Int) by omega)
        exact ⟨(path / 4 % (t.kids.length : Int)).toNat, by omega, by omega⟩
      obtain ⟨kid, hkid⟩ : ∃ kid, t.kids[i]? = some kid := ⟨t.kids[i], List.getElem?_eq_getElem hi2⟩
      have km : kid ∈ t.kids := List.mem_of_getElem? hkid
      obtain ⟨z, hz, ez⟩ := ih kid (path / 16) way cell S (kids_tk ht kid km) (kidsdp t hd kid km) h0 h7
      have tm := tm_th t (d + 1) ht hd
      rw [Th.e_eq, as] at tm
      have tmx : ∀ x ∈ PyData.str t.w :: t.kids.map Th.e, Tm (d + 3) x := fun x hx => tm_le (tm.2 x hx) (by omega)
      refine ⟨.tuple ((PyData.str t.w :: t.kids.map Th.e).take (i + 1) ++ [z] ++ (PyData.str t.w :: t.kids.map Th.e).drop (i + 1 + 1)), ⟨by simp; omega, fun x hx => ?_⟩, ?_⟩
      · rcases List.mem_append.mp hx with hx | hx
        · rcases List.mem_append.mp hx with hx | hx
          · exact tmx x (List.mem_of_mem_take hx)
          · rw [List.mem_singleton] at hx; subst hx; exact hz
        · exact tmx x (List.mem_of_mem_drop hx)
      · have xl : ixP (PyData.str t.w :: t.kids.map Th.e) (-1) = some ((t.kids.getLast (by intro z; exact c0 z)).e) := by
          unfold ixP
          rw [if_neg (by decide), if_pos (by simp; omega)]
          have : ((-1 : Int) + ((PyData.str t.w :: t.kids.map Th.e).length : Int)).toNat = t.kids.length := by simp; omega
          rw [this]
          obtain ⟨n, hn⟩ : ∃ n, t.kids.length = n + 1 := ⟨t.kids.length - 1, by omega⟩
          rw [hn, List.getElem?_cons_succ, List.getElem?_map, List.getLast_eq_getElem, List.getElem?_eq_getElem (by omega)]
          simp [hn]
        have xi : ixP (PyData.str t.w :: t.kids.map Th.e) ((i + 1 : Nat) : Int) = some kid.e := by
          rw [ix_n, List.getElem?_cons_succ, List.getElem?_map, hkid]; rfl
        have l2 : ¬ ((t.kids.length : Nat) : Int) + 1 < 2 := by omega
        have l3 : 0 < (t.kids.length : Int) := by omega
        have l1 : ((t.kids.length : Nat) : Int) + 1 - 1 = (t.kids.length : Int) := by omega
        have c1 := ct_to (xs := PyData.str t.w :: t.kids.map Th.e) (i + 1)
        have c2 := ct_from (xs := PyData.str t.w :: t.kids.map Th.e) (i + 1 + 1)
        have i2 : ((i + 1 : Nat) : Int) + 1 = ((i + 1 + 1 : Nat) : Int) := by omega
        have b1 : ((PyData.str t.w :: t.kids.map Th.e).take (i + 1)).length + 1 ≤ 1000000 := by rw [List.length_take]; simp; omega
        have b2 : ((PyData.str t.w :: t.kids.map Th.e).take (i + 1)).length + 1 + ((PyData.str t.w :: t.kids.map Th.e).drop (i + 1 + 1)).length ≤ 1000000 := by rw [List.length_take, List.length_drop]; simp; omega
        have ln : ((PyData.str t.w :: t.kids.map Th.e).length : Int) = (t.kids.length : Int) + 1 := by simp
        have hm : ∀ S, binV .mod (.p (.int (path / 4))) (.p (.int (t.kids.length : Int))) S = .ok (.p (.int (path / 4 % (t.kids.length : Int)))) S := fun S => b_mod l3
        rw [← i2] at c2
        push_cast at hi xi c1 c2
        rw [Th.e_eq, as]
        generalize (t.kids.getLast _) = lst at xl
        have et : ∀ S, isiV .tup (.p lst.e) S = .ok true S := fun S => e_isi
        have ll : ∀ S, biV .len [.p (.tuple (PyData.str t.w :: t.kids.map Th.e))] S = .ok (.p (.int ((t.kids.length : Int) + 1))) S := fun S => by simp
        generalize PyData.str t.w :: t.kids.map Th.e = X at *
        have a1 : ∀ S, binV .add (.p (.tuple (X.take (i + 1)))) (.p (.tuple [z])) S = .ok (.p (.tuple (X.take (i + 1) ++ [z]))) S := fun S => b_tup b1
        have a2 : ∀ S, binV .add (.p (.tuple (X.take (i + 1) ++ [z]))) (.p (.tuple (X.drop (i + 1 + 1)))) S = .ok (.p (.tuple (X.take (i + 1) ++ [z] ++ X.drop (i + 1 + 1)))) S := fun S => b_tup (by rw [List.length_append]; exact b2)
        unfold m_l_bent
        simp [runD, ll, l2, c, xl, et, l1, hm, hi, c1, c2, xi, ez, a1, a2]
end
end Kp

set_option Elab.async false
set_option linter.all false
set_option maxRecDepth 100000
set_option maxHeartbeats 8000000
set_option autoImplicit false
/-! Z10: things by their shapes, run. -/
namespace Kp
open PySem PySem.Spec PyProof.Rows L2
section
variable {cl : Cl} {kki kte krt kde kbe kce kgr kst kkn : Nat}
def SIs (c : Cf) (k : Bool) : Prop := ∀ (x : P) (S : Sto), Tm 60 x → c [.p x] S = .ok (.p (.bool (decide (0 < (kn 40 k x : Int))))) S
theorem ist_ok (h : SKn (cl kkn) 60) : SIs (runD cl 1 1 (m_is_term kkn)) false := by
  intro x S hx
  have e := h x false 40 S hx (by decide)
  simp only [wk, Bool.false_eq_true, if_false] at e
  have e' : cl kkn [.p x, .p (.str "t"), .p (.int 40)] S = .ok (.p (.int (kn 40 false x : Int))) S := e
  unfold m_is_term
  simp [runD, e']
theorem isk_ok (h : SKn (cl kkn) 60) : SIs (runD cl 1 1 (m_is_kind kkn)) true := by
  intro x S hx
  have e := h x true 40 S hx (by decide)
  simp only [wk, if_true] at e
  have e' : cl kkn [.p x, .p (.str "k"), .p (.int 40)] S = .ok (.p (.int (kn 40 true x : Int))) S := e
  unfold m_is_kind
  simp [runD, e']
theorem and3 {b : Bool} {n : Int} {i j : Nat} {en : En} {S : Sto} (h4 : en[i]? = some (some (.p (.bool b)))) (hj : en[j]? = some (some (.p (.int n)))) : ev cl (.and' (.v i) (.and' (.cmp .lt (.c (.int 0)) (.v j)) (.cmp .le (.v j) (.c (.int 600))))) en S = .ok (.p (.bool (b && (decide (0 < n) && decide (n ≤ 600))))) S := by
  cases b with
  | false => simp [h4]
  | true => by_cases c : 0 < n <;> simp [h4, hj, c]
theorem asg_n1 {cl : Cl} {e : Ex} {i : Nat} {en : En} {S S' : Sto} {v : PV} {r : Sms} (h : ev cl e en S = .ok v S') : exss cl (.cons (.asg (.nm i) e) r) en S = exss cl r (en.set i (some v)) S' := by
  simp [h]
theorem eq_bools {a b : Nat} {xs : List Bool} {S : Sto} (ha : S[a]? = some (.lst (xs.map .bool))) (hb : S[b]? = some (.lst (xs.map .bool))) : eqV' (.loc a) (.loc b) S = .ok true S := by
  have sh : ∀ l : List Bool, PyData.canLayAll0 (l.map PyData.bool) = true ∧ PyData.depthAll (l.map PyData.bool) = 0 := fun l => by
    induction l with
    | nil => exact ⟨rfl, rfl⟩
    | cons x l ih => exact ⟨by rw [List.map_cons]; simp only [PyData.canLayAll0, PyData.canLay0, ih.1]; rfl, by rw [List.map_cons]; simp only [PyData.depthAll, PyData.depth, ih.2]; rfl⟩
  have q : SeqAt.shaped (.list (xs.map PyData.bool)) = true := by
    unfold SeqAt.shaped
    simp only [PyData.canLay0, (sh xs).1, PyData.depth, (sh xs).2]
    decide
  rw [e_loc, ha, hb, eqC_l (by rw [q]; rfl), SeqAt.eqv_refl]
  exact (sh xs).1
@[reducible] def En10 (sv : PV) (want thing far deep term kind due told side k one : Option PV) : En := [some sv, want, thing, far, deep, term, kind, due, told, side, k, one]
theorem z10_fin {sv : PV} {want far side k : Option PV} {x : P} {S : Sto} (hx : Tm 60 x) (hde : SDq (cl kde) 60) (hrt : SRt (cl krt) 60) (hte : SIs (cl kte) false) (hki : SIs (cl kki) true) :
    ∃ l, exss cl ((m_law kki kte krt kde kbe kce kgr kst).dr 6) (En10 sv want (some (.p x)) far none none none none none side k none) S = .rt (.p (.bool true)) (S ++ l) := by
  have e1 := fun S => hde x S hx
  have e2 := fun S => hrt x false S hx
  have e3 := fun S => hrt x true S hx
  have e4 := fun S => hte x S hx
  have e5 := fun S => hki x S hx
  simp only [wk, Bool.false_eq_true, if_false, if_true] at e2 e3
  have ka := kn_iff (l := 40) (d := 60) (k := false) (x := x) (by decide)
  have kb := kn_iff (l := 40) (d := 60) (k := true) (x := x) (by decide)
  obtain ⟨A, hA⟩ : ∃ A : Bool, A = decide (0 < (kn 40 false x : Int)) := ⟨_, rfl⟩
  obtain ⟨B, hB⟩ : ∃ B : Bool, B = decide (0 < (kn 40 true x : Int)) := ⟨_, rfl⟩
  rw [← hA] at ka
  rw [← hB] at kb
  simp only [← hA] at e4
  simp only [← hB] at e5
  obtain ⟨D, hD⟩ : ∃ D : Bool, D = decide ((dq 60 x : Int) ≤ 40) := ⟨_, rfl⟩
  have ka' : A = (D && (decide (0 < (rt 60 false x : Int)) && decide ((rt 60 false x : Int) ≤ 600))) := by rw [hD]; exact ka
  have kb' : B = (D && (decide (0 < (rt 60 true x : Int)) && decide ((rt 60 true x : Int) ≤ 600))) := by rw [hD]; exact kb
  have a1 := fun S => and3 (cl := cl) (S := S) (i := 4) (j := 5) (b := D) (n := (rt 60 false x : Int)) (en := En10 sv want (some (.p x)) far (some (.p (.bool D))) (some (.p (.int (rt 60 false x : Int)))) (some (.p (.int (rt 60 true x : Int)))) none none side k none) rfl rfl
  have a2 := fun S => and3 (cl := cl) (S := S) (i := 4) (j := 6) (b := D) (n := (rt 60 true x : Int)) (en := En10 sv want (some (.p x)) far (some (.p (.bool D))) (some (.p (.int (rt 60 false x : Int)))) (some (.p (.int (rt 60 true x : Int)))) none none side k none) rfl rfl
  rw [← ka'] at a1
  rw [← kb'] at a2
  have q1 := eq_bools (S := S ++ [.lst [.bool A, .bool B], .lst [.bool A, .bool B], .lst [.bool true, .bool true], .lst [.bool true, .bool true]]) (a := S.length + 2) (b := S.length + 3) (xs := [true, true]) (by simp) (by simp)
  have q2 := eq_bools (S := S ++ [.lst [.bool A, .bool B], .lst [.bool A, .bool B], .lst [.bool true, .bool true], .lst [.bool true, .bool true]]) (a := S.length + 1) (b := S.length) (xs := [A, B]) (by simp) (by simp)
  refine ⟨[.lst [.bool A, .bool B], .lst [.bool A, .bool B], .lst [.bool true, .bool true], .lst [.bool true, .bool true]], ?_⟩
  unfold m_law
  simp only [Sms.dr]
  rw [asg_n1 (v := .p (.bool D)) (S' := S) (by simp [e1, hD])]
  dsimp only [List.set]
  rw [asg_n1 (v := .p (.int (rt 60 false x : Int))) (S' := S) (by simp [e2])]
  dsimp only [List.set]
  rw [asg_n1 (v := .p (.int (rt 60 true x : Int))) (S' := S) (by simp [e3])]
  dsimp only [List.set]
  rw [asg_n1 (v := .loc S.length) (S' := S ++ [.lst [.bool A, .bool B]]) (by
    rw [ev_lst, evs_cons, a1, bind_ok, kEvs_, evs_cons, a2, bind_ok, kEvs_, evs_nil]
    simp)]
  dsimp only [List.set]
  rw [asg_n1 (v := .loc (S.length + 1)) (S' := S ++ [.lst [.bool A, .bool B], .lst [.bool A, .bool B]]) (by simp [e4, e5])]
  dsimp only [List.set]
  have cc := compL_ok (el := ev cl (.isi (.v 11) .bool)) (tst := evC cl .non) (i := 11) (w := [(S.length + 1, [.bool A, .bool B])]) (S0 := S ++ [.lst [.bool A, .bool B], .lst [.bool A, .bool B]]) (en := En10 sv want (some (.p x)) far (some (.p (.bool D))) (some (.p (.int (rt 60 false x : Int)))) (some (.p (.int (rt 60 true x : Int)))) (some (.loc S.length)) (some (.loc (S.length + 1))) side k none)
    (fun (b : Bool) => PV.p (.bool b)) (fun _ => true) (fun _ => PyData.bool true) (fun q hq => by
      rw [List.mem_singleton] at hq; subst hq
      intro y hy
      simp only [List.mem_cons, List.not_mem_nil, or_false] at hy
      rcases hy with rfl | rfl <;> simp [pdB]) (fun q hq => by rw [List.mem_singleton] at hq; subst hq; simp) [A, B] [] (fun b hb acc => ⟨by simp, fun _ => by simp⟩) (by simp)
  simp at q1 q2 cc
  simp [q1, q2, cc]
def b10a : Sms := (.cons (.asg (.nm 2) (.ix (.lst (.cons (.tup (.cons (.c (.str "next")) (.cons (.v 2) .nil))) (.cons (.tup (.cons (.c (.str "app")) (.cons (.v 2) (.cons (.v 2) .nil)))) .nil))) (.v 3)))
    (.cons (.ift (.and' (.cmp .eq (.v 3) (.c (.int 1))) (.cmp .lt (.v 10) (.c (.int 5)))) (.cons (.asg (.nm 9) (.tup (.cons (.c (.str "app")) (.cons (.v 9) (.cons (.v 9) .nil)))))
    .nil) .nil)
    .nil))
theorem l10a {sv : PV} {want : Option PV} {f : Int} (hf : f = 0 ∨ f = 1) : ∀ (l : List Nat) (t u : Th) (v : Option PV) (S : Sto), t.tk → u.tk → ∃ (t' u' : Th) (v' : Option PV) (L : Sto), t'.tk ∧ u'.tk ∧ t'.dp ≤ t.dp + l.length ∧ u'.dp ≤ u.dp + l.length ∧
    forL (.nm 10) [] (exss cl b10a) (l.map fun (x : Nat) => PV.p (.int (0 + (x : Int)))) (En10 sv want (some (.p t.e)) (some (.p (.int f))) none none none none none (some (.p u.e)) v none) S = .nx (En10 sv want (some (.p t'.e)) (some (.p (.int f))) none none none none none (some (.p u'.e)) v' none) (S ++ L)
  | [], t, u, v, S, ht, hu => ⟨t, u, v, [], ht, hu, Nat.le_refl _, Nat.le_refl _, by simp⟩
  | x :: l, t, u, v, S, ht, hu => by
    obtain ⟨t1, u1, c, h1, h2, h3, h4, e⟩ : ∃ (t1 u1 : Th) (c : Cell), t1.tk ∧ u1.tk ∧ t1.dp ≤ t.dp + 1 ∧ u1.dp ≤ u.dp + 1 ∧ exss cl b10a (En10 sv want (some (.p t.e)) (some (.p (.int f))) none none none none none (some (.p u.e)) (some (.p (.int (0 + (x : Int))))) none) S = .nx (En10 sv want (some (.p t1.e)) (some (.p (.int f))) none none none none none (some (.p u1.e)) (some (.p (.int (0 + (x : Int))))) none) (S ++ [c]) := by
      rcases hf with rfl | rfl
      · refine ⟨.n1 .next t, u, .lst [.tuple [.str "next", t.e], .tuple [.str "app", t.e, t.e]], ht, hu, by simp, by omega, ?_⟩
        unfold b10a
        simp [ixP, Th.e]
      · by_cases c : (x : Int) < 5
        · refine ⟨.n2 .app t t, .n2 .app u u, .lst [.tuple [.str "next", t.e], .tuple [.str "app", t.e, t.e]], ⟨ht, ht⟩, ⟨hu, hu⟩, by simp, by simp, ?_⟩
          unfold b10a
          simp [ixP, Th.e, c]
        · refine ⟨.n2 .app t t, u, .lst [.tuple [.str "next", t.e], .tuple [.str "app", t.e, t.e]], ⟨ht, ht⟩, hu, by simp, by omega, ?_⟩
          unfold b10a
          simp [ixP, Th.e, c]
    obtain ⟨t', u', v', L, g1, g2, g3, g4, r⟩ := l10a (sv := sv) (want := want) hf l t1 u1 (some (.p (.int (0 + (x : Int))))) (S ++ [c]) h1 h2
    refine ⟨t', u', v', [c] ++ L, g1, g2, by simp only [List.length_cons]; omega, by simp only [List.length_cons]; omega, ?_⟩
    rw [List.map_cons, for_cons0, tgV_n, kTg_]
    dsimp only [En10, List.set] at e r ⊢
    rw [e, lp_nx, r, List.append_assoc]
def b10b : Sms := (.cons (.asg (.nm 9) (.tup (.cons (.c (.str "next")) (.cons (.v 9) .nil)))) .nil)
theorem l10b {sv : PV} {want th far : Option PV} : ∀ (l : List Nat) (u : Th) (v : Option PV) (S : Sto), u.tk → ∃ (u' : Th) (v' : Option PV), u'.tk ∧ u'.dp ≤ u.dp + l.length ∧
    forL (.nm 10) [] (exss cl b10b) (l.map fun (x : Nat) => PV.p (.int (0 + (x : Int)))) (En10 sv want th far none none none none none (some (.p u.e)) v none) S = .nx (En10 sv want th far none none none none none (some (.p u'.e)) v' none) S
  | [], u, v, S, hu => ⟨u, v, hu, Nat.le_refl _, by simp⟩
  | x :: l, u, v, S, hu => by
    obtain ⟨u', v', g1, g2, r⟩ := l10b (sv := sv) (want := want) (th := th) (far := far) l (.n1 .next u) (some (.p (.int (0 + (x : Int))))) S hu
    refine ⟨u', v', g1, by simp only [List.length_cons]; simp only [Th.dp] at g2; omega, ?_⟩
    have e : exss cl b10b (En10 sv want th far none none none none none (some (.p u.e)) (some (.p (.int (0 + (x : Int))))) none) S = .nx (En10 sv want th far none none none none none (some (.p (Th.n1 .next u).e)) (some (.p (.int (0 + (x : Int))))) none) S := by
      unfold b10b
      simp [Th.e]
    rw [List.map_cons, for_cons0, tgV_n, kTg_]
    dsimp only [En10, List.set] at e r ⊢
    rw [e, lp_nx, r]
def b10c : Sms := (.cons (.asg (.nm 2) (.tup (.cons (.ix (.lst (.cons (.c (.str "all")) (.cons (.c (.str "some")) .nil))) (.bin .mod (.v 10) (.c (.int 2)))) (.cons (.tup (.cons (.c (.str "nat")) .nil)) (.cons (.v 2) .nil))))) .nil)
theorem l10c {sv : PV} {want far side : Option PV} : ∀ (l : List Nat) (u : Th) (v : Option PV) (S : Sto), u.tk → ∃ (u' : Th) (v' : Option PV) (L : Sto), u'.tk ∧ u'.dp ≤ u.dp + l.length ∧
    forL (.nm 10) [] (exss cl b10c) (l.map fun (x : Nat) => PV.p (.int (0 + (x : Int)))) (En10 sv want (some (.p u.e)) far none none none none none side v none) S = .nx (En10 sv want (some (.p u'.e)) far none none none none none side v' none) (S ++ L)
  | [], u, v, S, hu => ⟨u, v, [], hu, Nat.le_refl _, by simp⟩
  | x :: l, u, v, S, hu => by
    obtain ⟨u1, h1, h2, e⟩ : ∃ u1 : Th, u1.tk ∧ u1.dp ≤ u.dp + 1 ∧ exss cl b10c (En10 sv want (some (.p u.e)) far none none none none none side (some (.p (.int (0 + (x : Int))))) none) S = .nx (En10 sv want (some (.p u1.e)) far none none none none none side (some (.p (.int (0 + (x : Int))))) none) (S ++ [.lst [.str "all", .str "some"]]) := by
      have dp := dp_pos u
      have : (x : Int) % 2 = 0 ∨ (x : Int) % 2 = 1 := by omega
      rcases this with c | c
      · refine ⟨.n2 .all (.n0 .nat) u, ⟨trivial, hu⟩, by simp; omega, ?_⟩
        unfold b10c
        simp [c, ixP, Th.e]
      · refine ⟨.n2 .some (.n0 .nat) u, ⟨trivial, hu⟩, by simp; omega, ?_⟩
        unfold b10c
        simp [c, ixP, Th.e]
    obtain ⟨u', v', L, g1, g2, r⟩ := l10c (sv := sv) (want := want) (far := far) (side := side) l u1 (some (.p (.int (0 + (x : Int))))) (S ++ [.lst [.str "all", .str "some"]]) h1
    refine ⟨u', v', [.lst [.str "all", .str "some"]] ++ L, g1, by simp only [List.length_cons]; omega, ?_⟩
    rw [List.map_cons, for_cons0, tgV_n, kTg_]
    dsimp only [En10, List.set] at e r ⊢
    rw [e, lp_nx, r, List.append_assoc]
theorem ift_p {t : Ex} {a b r : Sms} {en : En} {S S' : Sto} (h : evT cl t en S = .ok true S') : exss cl (.cons (.ift t a b) r) en S = (exss cl a en S').seq (exss cl r) := by simp [h]
theorem nx_q {s : Sm} {r : Sms} {en en' : En} {S S' : Sto} (h : exs cl s en S = .nx en' S') : exss cl (.cons s r) en S = exss cl r en' S' := by
  simp only [exss, h]
theorem z10_4 {sv : PV} {want : Option PV} {f c3 : Int} {t : Th} {S : Sto} (hce : ∀ S, cl kce [sv, .p (.int 3)] S = .ok (.p (.int c3)) S) (f0 : 0 ≤ f) (ht : t.tk) (hd : t.dp ≤ 9) :
    ∃ (t' : Th) (side k : Option PV) (L : Sto), t'.tk ∧ t'.dp ≤ 50 ∧ (¬ f < 2 → t'.dp ≤ 9) ∧ exss cl ((m_law kki kte krt kde kbe kce kgr kst).dr 3) (En10 sv want (some (.p t.e)) (some (.p (.int f))) none none none none none none none none) S = exss cl ((m_law kki kte krt kde kbe kce kgr kst).dr 4) (En10 sv want (some (.p t'.e)) (some (.p (.int f))) none none none none none side k none) (S ++ L) := by
  have e0 : Th.e (.n0 .zero) = .tuple [.str "zero"] := rfl
  unfold m_law
  simp only [Sms.dr]
  by_cases c : f < 2
  · have hf : f = 0 ∨ f = 1 := by omega
    obtain ⟨n, hn, nn⟩ : ∃ n : Nat, ixP [PyData.int (36 + c3 % 8), .int 8] f = some (.int (n : Int)) ∧ n ≤ 43 := by
      rcases hf with rfl | rfl
      · exact ⟨(36 + c3 % 8).toNat, by simp [ixP]; omega, by omega⟩
      · exact ⟨8, rfl, by omega⟩
    have n8 : f = 1 → n = 8 := fun z => by
      subst z
      have : ixP [PyData.int (36 + c3 % 8), .int 8] 1 = some (.int 8) := rfl
      rw [this] at hn
      have := PyData.int.inj (Option.some.inj hn)
      omega
    have hb : ((n : Nat) : Int) < 4611686018427387904 := by omega
    obtain ⟨t1, u1, v1, L1, a1, a2, a3, a4, r1⟩ := l10a (cl := cl) (sv := sv) (want := want) hf (List.range n) (.n0 .zero) (.n0 .zero) none (S ++ [.lst [.int (36 + c3 % 8), .int 8]]) trivial trivial
    rw [List.length_range] at a3 a4
    simp only [Th.dp] at a3 a4
    have s1 : ∀ r : Sms, exss cl (.cons (.asg (.nm 2) (.tup (.cons (.c (.str "zero")) .nil))) (.cons (.asg (.nm 9) (.tup (.cons (.c (.str "zero")) .nil)))
      (.cons (.for' (.nm 10) (.rng1 (.ix (.lst (.cons (.bin .add (.c (.int 36)) (.bin .mod (.call kce (.cons (.v 0) (.cons (.c (.int 3)) .nil))) (.c (.int 8)))) (.cons (.c (.int 8)) .nil))) (.v 3))) b10a) r))) (En10 sv want (some (.p t.e)) (some (.p (.int f))) none none none none none none none none) S = exss cl r (En10 sv want (some (.p t1.e)) (some (.p (.int f))) none none none none none (some (.p u1.e)) v1 none) (S ++ [.lst [.int (36 + c3 % 8), .int 8]] ++ L1) := fun r => by
      rw [asg_n1 (v := .p (Th.n0 .zero).e) (S' := S) (by simp [e0])]
      dsimp only [List.set]
      rw [asg_n1 (v := .p (Th.n0 .zero).e) (S' := S) (by simp [e0])]
      dsimp only [List.set]
      rw [nx_q (S' := S ++ [.lst [.int (36 + c3 % 8), .int 8]] ++ L1) (en' := En10 sv want (some (.p t1.e)) (some (.p (.int f))) none none none none none (some (.p u1.e)) v1 none) (by
        simp [En10] at r1
        simp [hce, hn, hb]
        exact r1)]
    by_cases c1 : f = 1
    · have n8' := n8 c1
      obtain ⟨m, hm, mm⟩ : ∃ m : Nat, 23 + c3 % 5 = (m : Int) ∧ m ≤ 27 := ⟨(23 + c3 % 5).toNat, by omega, by omega⟩
      have hb2 : ((m : Nat) : Int) < 4611686018427387904 := by omega
      obtain ⟨u2, v2, b1, b2, r2⟩ := l10b (cl := cl) (sv := sv) (want := want) (th := some (.p t1.e)) (far := some (.p (.int f))) (List.range m) u1 v1 (S ++ [.lst [.int (36 + c3 % 8), .int 8]] ++ L1) a2
      rw [List.length_range] at b2
      refine ⟨.n2 .app t1 u2, some (.p u2.e), v2, [.lst [.int (36 + c3 % 8), .int 8]] ++ L1, ⟨a1, b1⟩, by simp only [Th.dp]; omega, fun z => absurd c z, ?_⟩
      rw [ift_p (S' := S) (by simp [c])]
      have s1' := s1 (.cons (.ift (.cmp .eq (.v 3) (.c (.int 1))) (.cons (.for' (.nm 10) (.rng1 (.bin .add (.c (.int 23)) (.bin .mod (.call kce (.cons (.v 0) (.cons (.c (.int 3)) .nil))) (.c (.int 5))))) b10b)
        (.cons (.asg (.nm 2) (.tup (.cons (.c (.str "app")) (.cons (.v 2) (.cons (.v 9) .nil))))) .nil)) .nil) .nil)
      unfold b10a b10b at s1'
      rw [s1']
      rw [ift_p (S' := S ++ [.lst [.int (36 + c3 % 8), .int 8]] ++ L1) (by simp [c1])]
      rw [nx_q (S' := S ++ [.lst [.int (36 + c3 % 8), .int 8]] ++ L1) (en' := En10 sv want (some (.p t1.e)) (some (.p (.int f))) none none none none none (some (.p u2.e)) v2 none) (by
        simp [En10, b10b] at r2
        simp [hce, hm, hb2]
        exact r2)]
      rw [asg_n1 (v := .p (Th.n2 .app t1 u2).e) (S' := S ++ [.lst [.int (36 + c3 % 8), .int 8]] ++ L1) (by simp [Th.e])]
      rw [exss_nil, seq_nx, exss_nil, seq_nx, List.append_assoc]
      rfl
    · refine ⟨t1, some (.p u1.e), v1, [.lst [.int (36 + c3 % 8), .int 8]] ++ L1, a1, by omega, fun z => absurd c z, ?_⟩
      rw [ift_p (S' := S) (by simp [c])]
      have s1' := s1 (.cons (.ift (.cmp .eq (.v 3) (.c (.int 1))) (.cons (.for' (.nm 10) (.rng1 (.bin .add (.c (.int 23)) (.bin .mod (.call kce (.cons (.v 0) (.cons (.c (.int 3)) .nil))) (.c (.int 5))))) b10b)
        (.cons (.asg (.nm 2) (.tup (.cons (.c (.str "app")) (.cons (.v 2) (.cons (.v 9) .nil))))) .nil)) .nil) .nil)
      unfold b10a b10b at s1'
      rw [s1']
      rw [ift_q (S' := S ++ [.lst [.int (36 + c3 % 8), .int 8]] ++ L1) (by simp [c1])]
      rw [exss_nil, seq_nx, exss_nil, seq_nx, List.append_assoc]
  · refine ⟨t, none, none, [], ht, by omega, fun _ => hd, ?_⟩
    rw [ift_q (S' := S) (by simp [c]), exss_nil, seq_nx, List.append_nil]
theorem z10_5 {sv : PV} {b : Bool} {f c3 : Int} {t : Th} {side k : Option PV} {S : Sto} (hce : ∀ S, cl kce [sv, .p (.int 3)] S = .ok (.p (.int c3)) S) (ht : t.tk) (hd : t.dp ≤ 50) (hd9 : ¬ f < 2 → t.dp ≤ 9) :
    ∃ (t' : Th) (k' : Option PV) (L : Sto), t'.tk ∧ t'.dp ≤ 50 ∧ (¬ f < 2 → t'.dp ≤ 9) ∧ exss cl ((m_law kki kte krt kde kbe kce kgr kst).dr 4) (En10 sv (some (.p (.str (sc b)))) (some (.p t.e)) (some (.p (.int f))) none none none none none side k none) S = exss cl ((m_law kki kte krt kde kbe kce kgr kst).dr 5) (En10 sv (some (.p (.str (sc b)))) (some (.p t'.e)) (some (.p (.int f))) none none none none none side k' none) (S ++ L) := by
  unfold m_law
  simp only [Sms.dr]
  have sk : decide (sc b = "k") = !b := by cases b <;> decide +kernel
  have sk1 : sc false = "k" := rfl
  have sk2 : ¬ sc true = "k" := by decide +kernel
  by_cases c : f = 0 ∧ b = false
  · obtain ⟨c1, c2⟩ := c
    obtain ⟨m, hm, mm⟩ : ∃ m : Nat, 35 + c3 % 7 = (m : Int) ∧ m ≤ 41 := ⟨(35 + c3 % 7).toNat, by omega, by omega⟩
    have hb2 : ((m : Nat) : Int) < 4611686018427387904 := by omega
    obtain ⟨u2, v2, L, b1, b2, r2⟩ := l10c (cl := cl) (sv := sv) (want := some (.p (.str (sc b)))) (far := some (.p (.int f))) (side := side) (List.range m) (.n3 .same (.n0 .nat) (.n0 .zero) (.n0 .zero)) k S ⟨trivial, trivial, trivial⟩
    rw [List.length_range] at b2
    simp only [Th.dp] at b2
    refine ⟨u2, v2, L, b1, by omega, fun z => absurd (by omega) z, ?_⟩
    rw [ift_p (S' := S) (by simp [c1, sk, sk1, c2])]
    rw [asg_n1 (v := .p (Th.n3 .same (.n0 .nat) (.n0 .zero) (.n0 .zero)).e) (S' := S) (by simp [Th.e])]
    rw [nx_q (S' := S ++ L) (en' := En10 sv (some (.p (.str (sc b)))) (some (.p u2.e)) (some (.p (.int f))) none none none none none side v2 none) (by
      simp [En10, b10c] at r2
      simp [hce, hm, hb2]
      exact r2)]
    rw [exss_nil, seq_nx]
  · refine ⟨t, k, [], ht, hd, hd9, ?_⟩
    have z : f = 0 → b = true := fun z => by
      cases h : b with
      | true => rfl
      | false => exact absurd ⟨z, h⟩ c
    rw [ift_q (S' := S) (by
      by_cases c1 : f = 0
      · simp [c1, sk, sk2, z c1]
      · simp [c1]), exss_nil, seq_nx, List.append_nil]
theorem z10_6 {sv : PV} {want side k : Option PV} {f c3 c4 c5 : Int} {t : Th} {S : Sto} (hc3 : ∀ S, cl kce [sv, .p (.int 3)] S = .ok (.p (.int c3)) S) (hc4 : ∀ S, cl kce [sv, .p (.int 4)] S = .ok (.p (.int c4)) S) (hc5 : ∀ S, cl kce [sv, .p (.int 5)] S = .ok (.p (.int c5)) S) (hbe : SBent (cl kbe) 9) (ht : t.tk) (hd : t.dp ≤ 50) (hd9 : ¬ f < 2 → t.dp ≤ 9) :
    ∃ x : P, Tm 60 x ∧ exss cl ((m_law kki kte krt kde kbe kce kgr kst).dr 5) (En10 sv want (some (.p t.e)) (some (.p (.int f))) none none none none none side k none) S = exss cl ((m_law kki kte krt kde kbe kce kgr kst).dr 6) (En10 sv want (some (.p x)) (some (.p (.int f))) none none none none none side k none) S := by
  unfold m_law
  simp only [Sms.dr]
  by_cases c : 4 < f
  · obtain ⟨x, hx, e⟩ := hbe t c3 (c4 % 7) c5 S ht (hd9 (by omega)) (by omega) (by omega)
    refine ⟨x, tm_le hx (by decide), ?_⟩
    rw [ift_p (S' := S) (by simp [c])]
    rw [asg_n1 (v := .p x) (S' := S) (by simp [hc3, hc4, hc5, e]), exss_nil, seq_nx]
    rfl
  · refine ⟨t.e, tm_le (tm_th t 50 ht hd) (by decide), ?_⟩
    rw [ift_q (S' := S) (by simp [c]), exss_nil, seq_nx]
theorem law10 {ns : List Int} (hce : ∀ (k : Nat) (S : Sto), cl kce [.p (.list (ns.map .int)), .p (.int k)] S = .ok (.p (.int (ns[k]?.getD 0))) S) (hst : ∀ (c : Int) (S : Sto), cl kst [.p (.int c), .p (.int 120)] S = .ok (.loc S.length) (S ++ [.lst [.int (1 + c % 2147483646), .int (c / 3 % (120 + 1))]]))
    (hgr : SGrown (cl kgr) 9) (hbe : SBent (cl kbe) 9) (hde : SDq (cl kde) 60) (hrt : SRt (cl krt) 60) (hte : SIs (cl kte) false) (hki : SIs (cl kki) true) :
    ∃ S', exss cl (m_law kki kte krt kde kbe kce kgr kst) [some (.p (.list (ns.map .int))), none, none, none, none, none, none, none, none, none, none, none] [] = .rt (.p (.bool true)) S' := by
  have h0 := hce 0
  have h1 := hce 1
  have h2 := hce 2
  have h3 := hce 3
  have h4 := hce 4
  have h5 := hce 5
  generalize ns[0]?.getD 0 = c0 at h0
  generalize ns[1]?.getD 0 = c1 at h1
  generalize ns[2]?.getD 0 = c2 at h2
  generalize ns[3]?.getD 0 = c3 at h3
  generalize ns[4]?.getD 0 = c4 at h4
  generalize ns[5]?.getD 0 = c5 at h5
  generalize PV.p (.list (ns.map .int)) = sv at *
  have h0' : ∀ S, cl kce [sv, .p (.int 0)] S = .ok (.p (.int c0)) S := h0
  have h1' : ∀ S, cl kce [sv, .p (.int 1)] S = .ok (.p (.int c1)) S := h1
  have h2' : ∀ S, cl kce [sv, .p (.int 2)] S = .ok (.p (.int c2)) S := h2
  have b : ∃ b : Bool, ixP [PyData.str "t", PyData.str "k"] (c1 % 2) = some (.str (sc b)) := by
    have : c1 % 2 = 0 ∨ c1 % 2 = 1 := by omega
    rcases this with e | e <;> rw [e]
    · exact ⟨true, rfl⟩
    · exact ⟨false, rfl⟩
  obtain ⟨b, hb⟩ := b
  obtain ⟨t, a', n', _, g, e⟩ := hgr b [.lst [.str "t", .str "k"], .lst [.int (1 + c0 % 2147483646), .int (c0 / 3 % (120 + 1))]] 1 _ _ rfl (by omega)
  obtain ⟨v1, v2, v3⟩ := ok_bounds t b 9 g
  have tk := gr_tk 9 t b g
  have e' : cl kgr [.loc 1, .p (.str (sc b)), .p (.int 9)] [.lst [.str "t", .str "k"], .lst [.int (1 + c0 % 2147483646), .int (c0 / 3 % 121)]] = .ok (.p t.e) [.lst [.str "t", .str "k"], .lst [.int a', .int n']] := e
  have pre : exss cl (m_law kki kte krt kde kbe kce kgr kst) [some sv, none, none, none, none, none, none, none, none, none, none, none] [] = exss cl ((m_law kki kte krt kde kbe kce kgr kst).dr 3) (En10 sv (some (.p (.str (sc b)))) (some (.p t.e)) (some (.p (.int (c2 % 8)))) none none none none none none none none) [.lst [.str "t", .str "k"], .lst [.int a', .int n']] := by
    unfold m_law
    rw [asg_n1 (v := .p (.str (sc b))) (S' := [.lst [.str "t", .str "k"]]) (by simp [h1', hb])]
    dsimp only [List.set]
    rw [asg_n1 (v := .p t.e) (S' := [.lst [.str "t", .str "k"], .lst [.int a', .int n']]) (by simp [h0', hst, e'])]
    dsimp only [List.set]
    rw [asg_n1 (v := .p (.int (c2 % 8))) (S' := [.lst [.str "t", .str "k"], .lst [.int a', .int n']]) (by simp [h2'])]
    rfl
  rw [pre]
  obtain ⟨t4, side, k, L4, q1, q2, q3, e4⟩ := z10_4 (cl := cl) (kki := kki) (kte := kte) (krt := krt) (kde := kde) (kbe := kbe) (kgr := kgr) (kst := kst) (want := some (.p (.str (sc b)))) (f := c2 % 8) (S := [.lst [.str "t", .str "k"], .lst [.int a', .int n']]) h3 (by omega) tk v2
  rw [e4]
  obtain ⟨t5, k5, L5, p1, p2, p3, e5⟩ := z10_5 (cl := cl) (kki := kki) (kte := kte) (krt := krt) (kde := kde) (kbe := kbe) (kgr := kgr) (kst := kst) (b := b) (f := c2 % 8) (side := side) (k := k) (S := [.lst [.str "t", .str "k"], .lst [.int a', .int n']] ++ L4) h3 q1 q2 q3
  rw [e5]
  obtain ⟨x, hx, e6⟩ := z10_6 (cl := cl) (kki := kki) (kte := kte) (krt := krt) (kde := kde) (kbe := kbe) (kgr := kgr) (kst := kst) (want := some (.p (.str (sc b)))) (f := c2 % 8) (side := side) (k := k5) (S := [.lst [.str "t", .str "k"], .lst [.int a', .int n']] ++ L4 ++ L5) h3 h4 h5 hbe p1 p2 p3
  rw [e6]
  obtain ⟨l, e7⟩ := z10_fin (cl := cl) (kki := kki) (kte := kte) (krt := krt) (kde := kde) (kbe := kbe) (kce := kce) (kgr := kgr) (kst := kst) (sv := sv) (want := some (.p (.str (sc b)))) (far := some (.p (.int (c2 % 8)))) (side := side) (k := k5) (S := [.lst [.str "t", .str "k"], .lst [.int a', .int n']] ++ L4 ++ L5) hx hde hrt hte hki
  exact ⟨_, e7⟩
end
namespace k10
theorem eC (n : Nat) (ns : List Int) (k : Nat) (S : Sto) : callE T (n + 1) 7 [.p (.list (ns.map .int)), .p (.int k)] S = .ok (.p (.int (ns[k]?.getD 0))) S := by rw [r7]; exact cell_ok
theorem eX (n : Nat) : SNext (callE T (n + 1) 8) := by rw [r8]; exact next_ok
theorem eS (n : Nat) (c : Int) (S : Sto) : callE T (n + 1) 9 [.p (.int c), .p (.int 120)] S = .ok (.loc S.length) (S ++ [.lst [.int (1 + c % 2147483646), .int (c / 3 % (120 + 1))]]) := by rw [r9]; exact state_ok (by decide)
theorem eSh (n : Nat) : SShape (callE T (n + 1) 10) := by rw [r10]; exact shape_ok
theorem eShA (n : Nat) : SShA (callE T (n + 1) 10) := by rw [r10]; exact shapeA_ok
theorem eNm (n : Nat) : SName (callE T (n + 1) 11) := by rw [r11]; exact name_ok
theorem eG : ∀ (d n : Nat), SGrown (callE T (n + d + 2) 12) (d + 1)
  | 0, n => by
    show SGrown (callE T (n + 1 + 1) 12) (0 + 1)
    rw [r12]
    exact grown_ok (eSh n) (eNm n) (eX n) fun h => absurd rfl h
  | d + 1, n => by
    show SGrown (callE T (n + d + 2 + 1) 12) (d + 1 + 1)
    rw [r12]
    exact grown_ok (eSh (n + d + 1)) (eNm (n + d + 1)) (eX (n + d + 1)) fun _ => eG d n
theorem eSo (n : Nat) : SShA (callE T (n + 1) 0) := by rw [r0]; exact shapeof_ok
theorem eKw (n : Nat) : SKw (callE T (n + 1) 1) := by rw [r1]; exact kw_ok
theorem eNu (n d : Nat) : SNumB (callE T (n + 1) 2) d := by rw [r2]; exact num10_ok
theorem eNa (n d : Nat) : SNamB (callE T (n + 2) 3) d := by rw [r3]; exact nam10_ok (eSo n)
theorem eKn : ∀ (d n : Nat), d + 3 ≤ n → SKn (callE T n 4) d
  | 0, n, _ => fun x _ _ _ h => h.elim
  | d + 1, n, h => by
    obtain ⟨m, rfl⟩ : ∃ m, n = m + 3 := ⟨n - 3, by omega⟩
    rw [show m + 3 = (m + 2) + 1 from rfl, r4]
    exact kn_ok (eSo (m + 1)) (eKw (m + 1)) (eNu (m + 1) d) (eNa m d) (eKn d (m + 2) (by omega))
theorem eRt : ∀ (d n : Nat), d + 2 ≤ n → SRt (callE T n 13) d
  | 0, n, _ => fun x _ _ h => h.elim
  | d + 1, n, h => by
    obtain ⟨m, rfl⟩ : ∃ m, n = m + 2 := ⟨n - 2, by omega⟩
    rw [show m + 2 = (m + 1) + 1 from rfl, r13]
    exact rt_ok (eShA m) (eRt d (m + 1) (by omega))
theorem eDq : ∀ (d n : Nat), d + 1 ≤ n → SDq (callE T n 14) d
  | 0, n, _ => fun x _ h => h.elim
  | d + 1, n, h => by
    obtain ⟨m, rfl⟩ : ∃ m, n = m + 1 := ⟨n - 1, by omega⟩
    rw [r14]
    exact dqs_ok (eDq d m (by omega))
theorem eSp (n : Nat) : SSpo (callE T (n + 1) 15) := by rw [r15]; exact spoilt10_ok
theorem eBe : ∀ (d n : Nat), d + 2 ≤ n → SBent (callE T n 16) d
  | 0, n, _ => fun t _ _ _ _ _ h => absurd h (by have := dp_pos t; omega)
  | d + 1, n, h => by
    obtain ⟨m, rfl⟩ : ∃ m, n = m + 2 := ⟨n - 2, by omega⟩
    rw [show m + 2 = (m + 1) + 1 from rfl, r16]
    exact bent_ok (eSp m) (eBe d (m + 1) (by omega))
theorem law_run (ns : List Int) : ∃ S, callE T 230 17 [.p (.list (ns.map .int))] [] = .ok (.p (.bool true)) S := by
  have e : callE T 230 17 = runD (callE T 229) 1 12 d17.m := r17 229
  rw [e]
  have te : SIs (callE T 229 5) false := by
    rw [show (229 : Nat) = 228 + 1 from rfl, r5]
    exact ist_ok (eKn 60 228 (by decide))
  have ki : SIs (callE T 229 6) true := by
    rw [show (229 : Nat) = 228 + 1 from rfl, r6]
    exact isk_ok (eKn 60 228 (by decide))
  obtain ⟨S', h⟩ := law10 (cl := callE T 229) (kki := 6) (kte := 5) (krt := 13) (kde := 14) (kbe := 16) (kce := 7) (kgr := 12) (kst := 9) (ns := ns) (eC 228 ns) (eS 228) (eG 8 219) (eBe 9 229 (by decide)) (eDq 60 229 (by decide)) (eRt 60 229 (by decide)) te ki
  refine ⟨[], ?_⟩
  refine Eq.trans (if_pos rfl) ?_
  show endV 0 (exss (callE T 229) (m_law 6 5 13 14 16 7 12 9) [some (.p (.list (ns.map .int))), none, none, none, none, none, none, none, none, none, none, none] []) = _
  rw [h]
  simp
end k10
end Kp

theorem PySem.Challenge.cw_keeper_k10_a_thing_by_its_shape_holds : PySem.Challenge.rw_keeper_k10_a_thing_by_its_shape.Holds := by
  exact Kp.k10.ends fun ns _ => Kp.k10.law_run ns
